import PyProof.Rows.All
import Wide.All
import OpenK.AllK
import Wide.FinOn
import KE.KStateDown
import HandS.ForMost
import HandS.ForExc
import HandS.Flow
import HandS.Style
import HandS.Wide
import HandS.Defaults
import HandS.MakeKw
import HandS.CallLocal
import HandS.DictComp
import HandS.TryMany
import HandS.NoneIn
import HandS.Zip
import HandS.IsInst
import HandS.TupAny
import HandS.StrMore
import HandS.Lambda
import HandS.EndTab
import HandS.Head0
import HandS.Head1
import HandS.Head2
import HandS.HeadEnd
import HandS.HeadWalk
import HandS.HeadHook1
import HandS.HeadHook2
import HandS.HeadHook3
import HandS.HeadHook4
import KE.KUnpackStar
import KE.GoesEnum
import KE.GoesMore
import KE.GoesEnumKw
import HandS.Walk
import KE.KTryMore
import HandS.TryOnly
import KE.KEqSeq
import HandS.Codes
import HandS.Replace
import PySem.Challenge.RW_pointhouse_k65_whole_mirrored
set_option Elab.async false
set_option linter.all false
set_option maxRecDepth 100000
set_option maxHeartbeats 4000000
namespace Ph
open PySem PySem.Spec PyProof.Rows L2
abbrev Rw : PySem.W.OpenLaw := PySem.Challenge.rw_pointhouse_k65_whole_mirrored
def top (i : Nat) : Stmt := PySem.Challenge.pw_pointhouse_k65_whole_mirrored.main.body.getD i (.Pass ⟨0, 0, 0, 0⟩)
/-! ### tests -/
theorem yes {c : Bool} {A B : Prop} (h : c = true) (a : A) : if c = true then A else B := by
  rw [if_pos h]
  exact a
theorem no {c : Bool} {A B : Prop} (h : c = false) (b : B) : if c = true then A else B := by
  rw [h, if_neg Bool.false_ne_true]
  exact b
/-! ### a def of the text, and what its callers use of it -/
structure FnAs (K : PySem.W.Frag) (mg : Str → Option Value) (g x : Str) (st : Stmt) : Prop where
  ex : ∃ f fd, FunD K x x (defArgs st) (defBody st) (defScope st) [] [] f fd ∧ mg g = some (.ref f)
/-- the module's name is the def's own -/
abbrev FnAt (K : PySem.W.Frag) (mg : Str → Option Value) (x : Str) (st : Stmt) : Prop := FnAs K mg x x st
structure Cal (P : Program) (w : World) (K : PySem.W.Frag) (mg : Str → Option Value) (base : Heap) (CX : CXT) (k : Nat) (x : Str) (ps : List Str) (sp : Sp) : Prop where
  ex : ∃ f fd, FnOk P w K mg base CX k f fd ps sp ∧ mg x = some (.ref f) ∧ PySem.W.keepIn K (.ref f) = true ∧ Binds K fd ps []
section
variable {P : Program} {w : World} {K : PySem.W.Frag} {mg : Str → Option Value} {base : Heap}
/-- how many parameters bind, none of them by default -/
def BindN (st : Stmt) (x : Str) (ps : List Str) : Prop := ∀ (kV doc pm : Value) (an : Option Addr) (cdv ct : Value) (us : List Value), us.length = ps.length → bindArgs (PySem.W.fnOf x x (defArgs st) (defBody st) (defScope st) .none kV doc pm an cdv ct) ⟨us, []⟩ = pure (ps.zip us)
theorem Cal.of {CX : CXT} {g x : Str} {st : Stmt} {N ps : List Str} {k : Nat} {sp : Sp} (F : FnAs K mg g x st) (S : FnScope N ps (defScope st)) (hb : BindN st x ps) (len : ∀ vs H Q E, sp vs H Q E → vs.length = ps.length)
    (hbody : ∀ (f : Addr) (cdv : Value) (A : Around) (outer : List Env) (s : Shared) (H : Hp) (vs : List V) (Q : VK) (E : XK), Room k (A.deeper (envOfC x (defScope st) s.heap.objs.size f cdv)) → sp vs H Q E →
      ∃ t, PSs (cxOf CX P w K mg base N x (defScope st) f cdv A outer s H E) (defBody st) t ∧ t { nx := fun _ H' => Q .non H', rt := Q } (start N vs) H) : Cal P w K mg base CX (k + 1) g ps sp := by
  obtain ⟨f, fd, F1, F2⟩ := F.ex
  exact ⟨f, fd, F1.ok S len (fun cdv A outer s H vs Q E hr h => hbody f cdv A outer s H vs Q E hr h), F2, F1.kp, F1.bindsN hb⟩
/-- nothing leaves the def by an exception -/
theorem Cal.of0 {g x : Str} {st : Stmt} {N ps : List Str} {k : Nat} {sp : Sp} (F : FnAs K mg g x st) (S : FnScope N ps (defScope st)) (hb : BindN st x ps) (len : ∀ vs H Q E, sp vs H Q E → vs.length = ps.length)
    (hbody : ∀ (f : Addr) (cdv : Value) (A : Around) (outer : List Env) (s : Shared) (H : Hp) (vs : List V) (Q : VK) (E : XK), Room k (A.deeper (envOfC x (defScope st) s.heap.objs.size f cdv)) → sp vs H Q E →
      ∃ t, PSs (cxOf CX0 P w K mg base N x (defScope st) f cdv A outer s H E).nox (defBody st) t ∧ t { nx := fun _ H' => Q .non H', rt := Q } (start N vs) H) : Cal P w K mg base CX0 (k + 1) g ps sp :=
  Cal.of F S hb len fun f cdv A outer s H vs Q E hr h => let ⟨t, a, b⟩ := hbody f cdv A outer s H vs Q E hr h; ⟨t, a.nox, b⟩
theorem Cal.mono {CX : CXT} {x : Str} {ps : List Str} {j k : Nat} {sp : Sp} (c : Cal P w K mg base CX j x ps sp) (h : j ≤ k) : Cal P w K mg base CX k x ps sp := by
  obtain ⟨f, fd, a, b⟩ := c.ex
  exact ⟨f, fd, a.mono h, b⟩
theorem Cal.imp {CX : CXT} {x : Str} {ps : List Str} {k : Nat} {sp sp' : Sp} (c : Cal P w K mg base CX k x ps sp) (h : ∀ vs H Q E, sp' vs H Q E → sp vs H Q E) : Cal P w K mg base CX k x ps sp' := by
  obtain ⟨f, fd, a, b⟩ := c.ex
  exact ⟨f, fd, a.imp h, b⟩
end
section
variable {X : Cx} {k : Nat} {x : Str} {ps : List Str} {sp : Sp} {p pos : Pos} {e : Expr} {es : List Expr} {t : TA}
/-- a call of a def that raises nothing -/
theorem pe_c (c : Cal X.prog X.w X.K X.mg X.base CX0 k x ps sp) (hr : Room k X.A) (ha : PA X (e :: es) t) (hg : Gl X x := by rfl) (hdb : (x == ("__debug__" : Str)) = false := by decide)
    (he : starEach (e :: es) X.env = (false, eval e X.env) :: starEach es X.env := by rfl) (hpl : (backTo pos (starEach es X.env)).any (·.1) = false := by rfl) : PE X (.Call (.Name x p) (e :: es) [] pos) (tCall sp [] E0 t) := by
  obtain ⟨f, fd, a, b, d, g⟩ := c.ex
  exact pe_call a hr hg b d g .nil pass0 ha hdb he hpl
end
/-! ### methods -/
structure CalM (P : Program) (w : World) (K : PySem.W.Frag) (mg : Str → Option Value) (base : Heap) (CX : CXT) (k : Nat) (C : Addr) (m : Str) (ps : List Str) (sp : Sp) : Prop where
  ex : ∃ f fd, FnOk P w K mg base CX k f fd ps sp ∧ Meth K C m f ∧ Binds K fd ps []
structure MtAt (K : PySem.W.Frag) (C : Addr) (m q : Str) (st : Stmt) : Prop where
  ex : ∃ f fd, FunD K m q (defArgs st) (defBody st) (defScope st) [] [] f fd ∧ Meth K C m f
section
variable {P : Program} {w : World} {K : PySem.W.Frag} {mg : Str → Option Value} {base : Heap}
theorem CalM.of0 {C : Addr} {m q : Str} {st : Stmt} {N ps : List Str} {k : Nat} {sp : Sp} (F : MtAt K C m q st) (S : FnScope N ps (defScope st))
    (hb : ∀ (kV doc pm : Value) (an : Option Addr) (cdv ct : Value) (us : List Value), us.length = ps.length → bindArgs (PySem.W.fnOf m q (defArgs st) (defBody st) (defScope st) .none kV doc pm an cdv ct) ⟨us, []⟩ = pure (ps.zip us)) (len : ∀ vs H Q E, sp vs H Q E → vs.length = ps.length)
    (hbody : ∀ (f : Addr) (cdv : Value) (A : Around) (outer : List Env) (s : Shared) (H : Hp) (vs : List V) (Q : VK) (E : XK), Room k (A.deeper (envOfC q (defScope st) s.heap.objs.size f cdv)) → sp vs H Q E →
      ∃ t, PSs (cxOf CX0 P w K mg base N q (defScope st) f cdv A outer s H E).nox (defBody st) t ∧ t { nx := fun _ H' => Q .non H', rt := Q } (start N vs) H) : CalM P w K mg base CX0 (k + 1) C m ps sp := by
  obtain ⟨f, fd, F1, F2⟩ := F.ex
  exact ⟨f, fd, F1.ok S len (fun cdv A outer s H vs Q E hr h => let ⟨t, a, b⟩ := hbody f cdv A outer s H vs Q E hr h; ⟨t, a.nox, b⟩), F2, F1.bindsN hb⟩
end
section
variable {X : Cx} {k : Nat} {C : Addr} {m : Str} {ps : List Str} {sp : Sp} {apos pos : Pos} {e o : Expr} {es : List Expr} {ta : TE} {t : TA}
theorem pe_mt {pl : Sem Bool} (c : CalM X.prog X.w X.K X.mg X.base CX0 k C m ps sp) (cl : Cls X.K C) (hr : Room k X.A) (ho : PE X o ta) (ha : PA X (e :: es) t)
    (hst : starEach (e :: es) X.env = (false, eval e X.env) :: starEach es X.env := by rfl) (hpl : (backTo pos (starEach es X.env)).any (·.1) = false := by rfl)
    (ht : eval (.Call (.Attribute o m apos) (e :: es) [] pos) X.env = (do
      let ov ← eval o X.env
      standAt apos.atName
      let (f, first) ← holding [ov] (getMethod ov m pl)
      callWith pos f first (backTo pos (starEach (e :: es) X.env)) (backToKw pos (keywordEach [] X.env))) := by rfl) :
    PE X (.Call (.Attribute o m apos) (e :: es) [] pos) (tMeth C m sp [] E0 ta t) := by
  obtain ⟨f, fd, a, b, d⟩ := c.ex
  exact pe_meth ho cl b a hr d .nil pass0 ha hst hpl ht
theorem pe_mt0 {pl : Sem Bool} (c : CalM X.prog X.w X.K X.mg X.base CX0 k C m ps sp) (cl : Cls X.K C) (hr : Room k X.A) (ho : PE X o ta)
    (ht : eval (.Call (.Attribute o m apos) [] [] pos) X.env = (do
      let ov ← eval o X.env
      standAt apos.atName
      let (f, first) ← holding [ov] (getMethod ov m pl)
      callWith pos f first (backTo pos (starEach [] X.env)) (backToKw pos (keywordEach [] X.env))) := by rfl) :
    PE X (.Call (.Attribute o m apos) [] [] pos) (tMeth C m sp [] E0 ta tNil) := by
  obtain ⟨f, fd, a, b, d⟩ := c.ex
  exact pe_meth0 ho cl b a hr d .nil pass0 ht
end
/-! ### an attribute as one of several targets -/
section
variable {X : Cx} {o : Expr} {f : Str} {pos : Pos} {ta : TE}
def gFld (K : PySem.W.Frag) (ta : TE) (f : Str) : TG := fun v σ H Q => ta σ H fun x H2 => ∃ a C dx fs, x = .ref a ∧ H2 a = some (.ins C dx fs) ∧ Cls K C ∧ NoAttr K C f ∧ fs.length < 1000 ∧ Q σ (upd H2 a (.ins C dx (putF f v fs)))
theorem pg_fld (ho : PE X o ta) : PG X (.Attribute o f pos) (gFld X.K ta f) := by
  refine ⟨fun pins s σ H v u Q I r h => ?_⟩
  rw [arm_assign_Attribute]
  refine wpAny_bind (wpAny_holding (thn (ho.run pins s σ H _ I h) fun ov s1 ⟨x, H1, I1, r1, a, C, dx, fs, e1, e2, c, n, l, q⟩ => ?_))
  subst e1
  obtain rfl : ov = Value.ref a := r1
  refine wpAny_bind (wpAny_standAt (wpAny_bind (wpAny_holding (setattr_ok I1 e2 c n l r fun s3 I3 => ?_))))
  exact wpAny_release ⟨σ, _, I3, q⟩
end
end Ph
set_option linter.all false
set_option maxRecDepth 100000
set_option maxHeartbeats 0
namespace Ph.Hd
open PySem PySem.Spec PyProof.Rows L2
/-! ### the head: what is looked at, by a list of addresses -/
section
variable (gs : List Addr) (fa : List He.Fa) (fn : List He.DefD) (ts : List He.Tab) (tf : List He.Defn) (ex : PySem.W.Frag → Bool)
def obsA (g : Addr → Option Obj) : He.AlX := (He.obsT fa fn ts (He.frT g gs), ex (He.frT g gs) && He.tabsB g tf (He.frT g gs))
theorem saysA_of {w : World} {h : Heap} (e : obsA gs fa fn ts tf ex h.get? = He.valX fn ts w) : He.SaysX fa fn ts tf ex w h (He.frT h.get? gs) := by
  have e1 : He.obsT fa fn ts (He.frT h.get? gs) = He.valT fn ts w := congrArg (fun z : He.AlX => z.1) e
  have e2 : (ex (He.frT h.get? gs) && He.tabsB h.get? tf (He.frT h.get? gs)) = true := congrArg (fun z : He.AlX => z.2) e
  obtain ⟨h1, h2⟩ := He.ba e2
  have key : ∀ p ∈ tf, PySem.W.codeHdIn (He.frT h.get? gs) (He.cT (He.frT h.get? gs) p).1 (He.cT (He.frT h.get? gs) p).2 = true ∧ ∃ o, h.get? (He.cT (He.frT h.get? gs) p).2 = some o ∧ He.emptyTab o = true := fun p hp => by
    obtain ⟨h3, h4⟩ := He.ba (List.all_eq_true.mp h2 p hp)
    refine ⟨h3, ?_⟩
    cases q : h.get? (He.cT (He.frT h.get? gs) p).2 with
    | none =>
      rw [q] at h4
      cases h4
    | some o =>
      rw [q] at h4
      exact ⟨o, rfl, h4⟩
  exact ⟨e1, h1, fun p hp => (key p hp).1, fun p hp => by
    obtain ⟨_, o, q, z⟩ := key p hp
    exact He.frT_none q z, fun p hp => by
    obtain ⟨_, o, q, z⟩ := key p hp
    rw [q, He.emptyTab_eq z]⟩
def hookA : PySem.W.Hook where
  α := He.AlX
  obs := fun s => obsA gs fa fn ts tf ex s.heap.get?
  val := fun w => He.valX fn ts w
  says := fun w h => ∃ K : PySem.W.Frag, K.In h ∧ He.SaysX fa fn ts tf ex w h K
  of := fun _ _ e => ⟨_, He.frT_in, saysA_of gs fa fn ts tf ex e⟩
  keeps := fun _ _ _ ⟨K, hK, c⟩ k => ⟨K, PySem.W.Frag.In.keeps hK k, ⟨c.t, c.more, c.hd, c.out, fun p hp => k _ _ (c.empty p hp)⟩⟩
theorem obsA_eq {g : Addr → Option Obj} {s : Shared} (h : ∀ a, g a = s.heap.get? a) : obsA gs fa fn ts tf ex g = (hookA gs fa fn ts tf ex).obs s := by
  have e : g = s.heap.get? := funext h
  rw [e] <;> rfl
end
/-- two looks in one -/
theorem map2 {α β γ δ : Type} {x : Option α} {f : α → β} {g : α → γ} {h : α → δ} {b : β} {c : γ} {d : δ} (h1 : x.map (fun s => (f s, g s)) = some (b, c)) (h2 : x.map h = some d) : x.map (fun s => (f s, g s, h s)) = some (b, c, d) := by
  cases x with
  | none => cases h1
  | some a =>
    injection h1 with h1
    injection h1 with h3 h4
    injection h2 with h2
    show some (f a, g a, h a) = _
    rw [h2, h3, h4]
def names0 : List Str := (["_wall", "PointError", "NoExact", "NoLine", "TwoRoots", "NoBottom", "is_whole", "lowest", "whole_root", "root_of", "root_of_exacts", "sign_in", "sum_of", "product_of", "are_right", "Exact", "fields_of", "quotient", "opposite", "shared_radix", "made_of", "shown_quotient", "shown", "against"] : List Str)
def names1 : List Str := (["way_between", "dot", "cross", "leftwards", "gone", "scaled_line", "line_by", "line_through", "line_along", "line_upright", "lines_meet", "middle_of", "far_from", "foot_of", "mirror_of", "turned", "root_of_plane", "with_roots", "must_agree", "crossings", "step_at", "base_of", "TAKES", "there_in"] : List Str)
def names2 : List Str := (["way_by", "place_on", "place_round", "circle_through", "other_of", "PLAIN_WAYS", "made_by", "made", "drawn", "is_same", "is_cross_nought", "are_one", "are_in_row", "are_along", "are_upright", "are_alike", "are_angles", "are_in_ring", "is_at", "JUDGES", "is_so_by", "is_so", "_law_deck", "_law_draw"] : List Str)
def names3 : List Str := (["_law_pick", "_law_q", "_law_names", "_law_number", "_law_weigh", "_law_known", "_law_two", "_law_others", "_law_some_step", "_law_plan", "_law_many", "_law_numbers", "_law_hand", "_law_step_of", "_law_shown", "_law_below", "_law_odd_way", "_law_plan_led", "_law_numbers_led", "_law_thing_led", "_law_claims"] : List Str)
def names : List Str := names0 ++ names1 ++ names2 ++ names3
def gs : List Addr := [3, 97, 96, 104, 103, 111, 110, 125, 124, 132, 131, 139, 138, 144, 143, 251, 250, 258, 257, 265, 264, 272, 271, 293, 292, 300, 299, 307, 306, 314, 313, 321, 320, 328, 327, 335, 334, 342, 341, 349, 348, 356, 355, 363, 362, 370, 369, 377, 376, 384, 383, 391, 390, 398, 397, 405, 404, 417, 416, 424, 423, 434, 433, 441, 440, 447, 446, 454, 453, 459, 458, 466, 465, 473, 472, 480, 479, 488, 487, 493, 492, 507, 506, 514, 513, 519, 518, 526, 525, 533, 532, 540, 539, 547, 546, 554, 553, 561, 560, 568, 567, 574, 573, 581, 580, 588, 587, 595, 594, 602, 601, 609, 608, 614, 613, 621, 620, 626, 625, 631, 630, 638, 637, 643, 642, 648, 647, 655, 654, 660, 659, 665, 664, 670, 669, 675, 674, 680, 679, 687, 686, 694, 693, 699, 698, 706, 705, 713, 712, 718, 717, 723, 722, 118, 117, 500, 499, 233, 232, 160, 159, 152, 153, 188, 187, 195, 194, 202, 201, 209, 208, 216, 215, 56, 55, 31, 30, 75, 74, 442, 481, 569]
def fnT0 : List (Str × Nat) := [("is_whole", 8), ("lowest", 9), ("whole_root", 10), ("sign_in", 13), ("sum_of", 14), ("product_of", 15), ("are_right", 16), ("quotient", 19), ("opposite", 20), ("shared_radix", 21), ("made_of", 22), ("against", 26), ("way_between", 27), ("dot", 28), ("cross", 29), ("leftwards", 30), ("gone", 31), ("scaled_line", 32), ("line_by", 33), ("line_through", 34), ("line_along", 35), ("line_upright", 36), ("lines_meet", 37), ("middle_of", 38), ("far_from", 39), ("foot_of", 40)]
def fnT1 : List (Str × Nat) := [("mirror_of", 41), ("turned", 42), ("with_roots", 45), ("must_agree", 46), ("step_at", 49), ("base_of", 50), ("there_in", 53), ("way_by", 54), ("place_on", 55), ("place_round", 56), ("circle_through", 57), ("other_of", 58), ("made_by", 60), ("made", 61), ("is_same", 64), ("is_cross_nought", 65), ("are_one", 66), ("are_in_row", 67), ("are_along", 68), ("are_upright", 69), ("are_alike", 70), ("are_angles", 71), ("are_in_ring", 72), ("is_at", 73), ("is_so_by", 75), ("is_so", 76)]
def fnT2 : List (Str × Nat) := [("_law_deck", 78), ("_law_draw", 79), ("_law_pick", 80), ("_law_q", 81), ("_law_names", 82), ("_law_number", 83), ("_law_weigh", 84), ("_law_known", 85), ("_law_two", 86), ("_law_others", 87), ("_law_some_step", 88), ("_law_plan", 89), ("_law_many", 90), ("_law_numbers", 91), ("_law_hand", 92), ("_law_step_of", 93), ("_law_shown", 94), ("_law_below", 95), ("_law_odd_way", 96), ("_law_plan_led", 97), ("_law_numbers_led", 98), ("_law_thing_led", 99), ("_law_claims", 100), ("law", 101)]
def fnT : List (Str × Nat) := fnT0 ++ fnT1 ++ fnT2
def dfOf (p : Str × Nat) : He.DefD := ⟨(p.1, none), p.1, p.1, defArgs (top p.2), defBody (top p.2), defScope (top p.2), [], []⟩
def dRoot : He.DefD := ⟨("root_of_exacts", none), "root_of", "root_of", defArgs (top 11), defBody (top 11), defScope (top 11), [], []⟩
def dInit : He.DefD := ⟨("Exact", some "__init__"), "__init__", "Exact.__init__", defArgs (inClass (top 17) 0), defBody (inClass (top 17) 0), defScope (inClass (top 17) 0), [.int 1], [("sign", .int 0), ("over", .int 0), ("under", .int 1)]⟩
def dMeth (m q : Str) (j : Nat) : He.DefD := ⟨("Exact", some m), m, q, defArgs (inClass (top 17) j), defBody (inClass (top 17) j), defScope (inClass (top 17) j), [], []⟩
def dfX : List He.DefD := [dRoot, dfOf ("drawn", 62), dInit, dMeth "plus" "Exact.plus" 4, dMeth "minus" "Exact.minus" 5, dMeth "times" "Exact.times" 6, dMeth "by" "Exact.by" 7, dMeth "sign_of" "Exact.sign_of" 8]
def fn : List He.DefD := dfX ++ fnT.map dfOf
def faB : List He.Fa := [.free "abs", .free "len", .free "list", .free "tuple", .free "sum", .free "isinstance", .free "all", .free "any", .free "enumerate", .free "zip", .free "range", .free "min", .free "int", .free "bool", .free "str", .free "repr"]
def faX : List He.Fa := [.glo "root_of_exacts", .glo "drawn", .glo "TAKES", .glo "PLAIN_WAYS", .glo "JUDGES", .glo "Exact", .glo "NoLine", .glo "TwoRoots", .cls "Exact", .noat "Exact" "top", .noat "Exact" "bottom", .noat "Exact" "sign", .noat "Exact" "over", .noat "Exact" "under", .mkr "Exact", .exc "NoLine", .meth "Exact" "plus", .meth "Exact" "minus", .meth "Exact" "times", .meth "Exact" "by", .meth "Exact" "sign_of"]
def fa : List He.Fa := faB ++ faX ++ fnT.map fun p => .glo p.1
def ts : List He.Tab := [(fun K => He.ga K "TAKES", ["free", "on", "round"]), (fun K => He.ga K "PLAIN_WAYS", ["meet", "middle", "foot", "mirror", "line", "along", "upright", "circle"]), (fun K => He.ga K "JUDGES", ["same", "row", "along", "upright", "alike", "angle", "ring", "at"])]
def waysV : List (Str × He.Dv) := [("meet", .glo "lines_meet"), ("middle", .glo "middle_of"), ("foot", .glo "foot_of"), ("mirror", .glo "mirror_of"), ("line", .glo "line_through"), ("along", .glo "line_along"), ("upright", .glo "line_upright"), ("circle", .glo "circle_through")]
def judgV : List (Str × He.Dv) := [("same", .glo "are_one"), ("row", .glo "are_in_row"), ("along", .glo "are_along"), ("upright", .glo "are_upright"), ("alike", .glo "are_alike"), ("angle", .glo "are_angles"), ("ring", .glo "are_in_ring"), ("at", .glo "is_at")]
def takV : List (Str × He.Dv) := [("free", .int 2), ("on", .int 1), ("round", .int 1)]
def noTak : List Str := ["turn", "other", "meet", "middle", "foot", "mirror", "line", "along", "upright", "circle"]
def exA (K : PySem.W.Frag) : Bool := He.eqO (PySem.W.findIn K (.ref (He.ga K "Exact")) "__class__") (some (some (.builtin "object.__class__"))) && (He.eqO (PySem.W.specialIn K (.builtin "object.__class__") "__get__") (some (some (.builtin "getset_descriptor.__get__"))) &&
  (decide (PySem.W.takesIn K (.builtin "object.__class__") = some true) && (decide (PySem.W.mroIn K (He.ga K "Exact") (.type "object") = some true) && decide (PySem.W.exmAny K (.ref (He.ga K "NoLine")) [.ref (He.ga K "NoLine"), .ref (He.ga K "TwoRoots")] = some true))))
def kits (K : PySem.W.Frag) : List (Value × Value × Bool) := [(.ref (He.ga K "Exact"), .type "tuple", false), (.type "tuple", .ref (He.ga K "Exact"), false), (.type "list", .ref (He.ga K "Exact"), false), (.type "int", .type "bool", false), (.type "str", .type "str", true), (.type "int", .type "str", false), (.type "tuple", .type "tuple", true), (.type "int", .type "tuple", false)]
def exB (K : PySem.W.Frag) : Bool := (kits K).all fun q => decide (PySem.W.kitOne K q.1 q.2.1 = some q.2.2)
def exC (K : PySem.W.Frag) : Bool := He.valsB K (He.ga K "TAKES") takV && (He.valsB K (He.ga K "PLAIN_WAYS") waysV && (He.valsB K (He.ga K "JUDGES") judgV && noTak.all fun x => He.eqO (PySem.W.nsIn K (He.ga K "TAKES") x) (some none)))
def ex (K : PySem.W.Frag) : Bool := exA K && (exB K && exC K)
def tf : List He.Defn := [("drawn", none)]
abbrev R : PySem.W.OpenRow := PySem.W.OpenLaw.row Rw
abbrev hk : PySem.W.Hook := hookA gs fa fn ts tf ex
abbrev qv : Program := PySem.W.view R.prog [101]
def ob (s : PySem.W.SharedT) : He.AlX := obsA gs fa fn ts tf ex (HandSHeadRun.getT s)
theorem ob_eq (s : PySem.W.SharedT) : ob s = hk.obs s.abs := obsA_eq gs fa fn ts tf ex (HandSHeadRun.getT_eq s)
end Ph.Hd
set_option linter.all false
set_option maxRecDepth 100000
set_option maxHeartbeats 0
namespace Ph.Hd
open PySem PySem.W PySem.Calls PyProof.Rows
noncomputable def endW (w : World) (os : OsState) : Option SharedT := HandSHeadRun.endF (HandSHeadRun.stepQ (HandSHeadRun.denQ HandSHeadRun.tabQ) R.prog w) 20000 R.prog w os
theorem lookF (w : World) (os : OsState) : (endW (w.withFollow "special-get-raises" false) os).map (fun s => (HandSHeadRun.looksF R.prog (boot_heap (w.withFollow "special-get-raises" false).params) s.abs, HandSHeadRun.seenQ qv names (importedModules R.prog.main.body) (fun s => xlAt qv [] s && recOk R.toRowW.records s) s.abs)) = some (true, openGood qv names) := by
  kernel_rfl
theorem factsF (w : World) (os : OsState) : (endW (w.withFollow "special-get-raises" false) os).map ob = some (hk.val (w.withFollow "special-get-raises" false)) := by
  kernel_rfl
theorem runF (w : World) : HandSHeadRun.RunEq R qv hk ob 20000 names (w.withFollow "special-get-raises" false) := fun os => map2 (lookF w os) (factsF w os)
theorem lookT (w : World) (os : OsState) : (endW (w.withFollow "special-get-raises" true) os).map (fun s => (HandSHeadRun.looksF R.prog (boot_heap (w.withFollow "special-get-raises" true).params) s.abs, HandSHeadRun.seenQ qv names (importedModules R.prog.main.body) (fun s => xlAt qv [] s && recOk R.toRowW.records s) s.abs)) = some (true, openGood qv names) := by
  kernel_rfl
theorem factsT (w : World) (os : OsState) : (endW (w.withFollow "special-get-raises" true) os).map ob = some (hk.val (w.withFollow "special-get-raises" true)) := by
  kernel_rfl
theorem runT (w : World) : HandSHeadRun.RunEq R qv hk ob 20000 names (w.withFollow "special-get-raises" true) := fun os => map2 (lookT w os) (factsT w os)
theorem run_all (w : World) : HandSHeadRun.RunEq R qv hk ob 20000 names w :=
  byRow2 "special-get-raises" (P := HandSHeadRun.RunEq R qv hk ob 20000 names) runF runT w
end Ph.Hd
set_option linter.all false
set_option maxRecDepth 100000
set_option maxHeartbeats 0
namespace Ph.Hd
open PySem PySem.W PySem.Calls PyProof.Rows
abbrev lawD : DefRec := HandSHeadRun.topDef R.prog 101
theorem bare : R.prog.bare := ⟨rfl, rfl, rfl, rfl, rfl, by decide +kernel⟩
theorem plain : opening R.prog = plainProg R.prog.main.scope.names := by
  kernel_rfl
theorem fence (s : Shared) : fenceModules? R.prog s = some s := by
  kernel_rfl
theorem defQ : defOf qv R.name = some (lawD, []) := by
  kernel_rfl
theorem defP : R.prog.theDef R.name = some (lawD.params, lawD.body, lawD.scope) := by
  kernel_rfl
theorem kwL : kwWritten? lawD.params.kwonlyargs lawD.params.kw_defaults = some [] := by
  kernel_rfl
theorem well : (chainsOk qv && opensWell R.prog && (frees R.toRowW && R.within.isEmpty)) = true := by
  decide +kernel
theorem nmL : lawD.name = ("law" : PySem.Str) := by
  kernel_rfl
theorem noImp : importsNone qv = true := by
  kernel_rfl
theorem holds_by (said : R.wellSaid = true) (hw : R.toRowW.promised) (call : WalkO qv names (XL qv []) hk.says R.toRowW lawD [] fun f vs => PySem.call f vs) : R.Holds :=
  HandSHeadRun.head_any (r := R) (q := qv) (H := hk) (ob := ob) (M := 20000) (loose := names) (d := lawD) (kwd := []) ob_eq plain fence run_all defQ defP kwL (by rfl) said well bare hw call
end Ph.Hd
set_option linter.all false
set_option maxRecDepth 100000
set_option maxHeartbeats 4000000
namespace Ph
/-! ### quotients and their sizes -/
theorem num_of {t b : Int} (hb : 0 < b) : (Rat.divInt t b).num = t / ((Nat.gcd t.natAbs b.natAbs : Nat) : Int) := by
  rw [Rat.num_divInt, Int.sign_eq_one_of_pos hb, Int.one_mul]
  show t / ((Nat.gcd b.natAbs t.natAbs : Nat) : Int) = _
  rw [Nat.gcd_comm]
theorem den_of {t b : Int} (hb : 0 < b) : (((Rat.divInt t b).den : Nat) : Int) = b / ((Nat.gcd t.natAbs b.natAbs : Nat) : Int) := by
  rw [Rat.den_divInt, if_neg (by omega)]
  show (((b.natAbs / Nat.gcd b.natAbs t.natAbs : Nat)) : Int) = _
  rw [Nat.gcd_comm, Int.natCast_ediv]
  congr 1
  omega
def Sm (n : Nat) (q : Rat) : Prop := q.num.natAbs < 2 ^ n ∧ q.den < 2 ^ n
theorem Sm.mono {n m : Nat} {q : Rat} (h : Sm n q) (hm : n ≤ m) : Sm m q :=
  ⟨Nat.lt_of_lt_of_le h.1 (Nat.pow_le_pow_right (by decide) hm), Nat.lt_of_lt_of_le h.2 (Nat.pow_le_pow_right (by decide) hm)⟩
theorem sm_of {t b : Int} {n : Nat} (ht : t.natAbs < 2 ^ n) (hb : b.natAbs < 2 ^ n) (h0 : 0 < b) : Sm n (Rat.divInt t b) := by
  constructor
  · rw [num_of h0]
    exact Nat.lt_of_le_of_lt (by rw [Int.natAbs_ediv_of_dvd (by rw [← Int.dvd_natAbs]; exact Int.natCast_dvd_natCast.mpr (Nat.gcd_dvd_left _ _))]; exact Nat.div_le_self _ _) ht
  · have e := den_of (t := t) h0
    have h1 : (Rat.divInt t b).den ≤ b.natAbs := by
      rw [Rat.den_divInt, if_neg (by omega)]
      exact Nat.div_le_self _ _
    exact Nat.lt_of_le_of_lt h1 hb
theorem sm_ofZ {t b : Int} {n : Nat} (ht : t.natAbs < 2 ^ n) (hb : b.natAbs < 2 ^ n) (h0 : b ≠ 0) : Sm n (Rat.divInt t b) := by
  rcases Int.lt_or_lt_of_ne h0 with h | h
  · have e : Rat.divInt t b = Rat.divInt (-t) (-b) := by rw [Rat.divInt_neg', Int.neg_neg]
    rw [e]
    exact sm_of (by omega) (by omega) (by omega)
  · exact sm_of ht hb h
theorem den_pos (q : Rat) : (0 : Int) < (q.den : Int) := by
  have := q.den_pos
  omega
theorem add_as (p q : Rat) : p + q = Rat.divInt (p.num * (q.den : Int) + q.num * (p.den : Int)) ((p.den : Int) * (q.den : Int)) := by
  conv => lhs; rw [← Rat.num_divInt_den p, ← Rat.num_divInt_den q]
  rw [Rat.divInt_add_divInt _ _ (by have := den_pos p; omega) (by have := den_pos q; omega)]
theorem mul_as (p q : Rat) : p * q = Rat.divInt (p.num * q.num) ((p.den : Int) * (q.den : Int)) := by
  conv => lhs; rw [← Rat.num_divInt_den p, ← Rat.num_divInt_den q]
  rw [Rat.divInt_mul_divInt]
theorem pow_add_lt {a b n m : Nat} (ha : a < 2 ^ n) (hb : b < 2 ^ m) : a * b < 2 ^ (n + m) := by
  rw [Nat.pow_add]
  exact Nat.mul_lt_mul'' ha hb
theorem Sm.add {n m : Nat} {p q : Rat} (hp : Sm n p) (hq : Sm m q) : Sm (n + m + 1) (p + q) := by
  have e := add_as p q
  rw [e]
  have h1 : (p.num * (q.den : Int)).natAbs < 2 ^ (n + m) := by
    rw [Int.natAbs_mul]
    exact pow_add_lt hp.1 (by simpa using hq.2)
  have h2 : (q.num * (p.den : Int)).natAbs < 2 ^ (n + m) := by
    rw [Int.natAbs_mul, Nat.mul_comm]
    exact pow_add_lt (by simpa using hp.2) hq.1
  have h3 : ((p.den : Int) * (q.den : Int)).natAbs < 2 ^ (n + m) := by
    rw [Int.natAbs_mul]
    exact pow_add_lt (by simpa using hp.2) (by simpa using hq.2)
  have e2 : 2 ^ (n + m + 1) = 2 ^ (n + m) + 2 ^ (n + m) := by rw [Nat.pow_succ]; omega
  refine sm_of ?_ ?_ (Int.mul_pos (den_pos p) (den_pos q))
  · rw [e2]
    omega
  · rw [e2]
    omega
theorem Sm.mul {n m : Nat} {p q : Rat} (hp : Sm n p) (hq : Sm m q) : Sm (n + m) (p * q) := by
  rw [mul_as p q]
  refine sm_of ?_ ?_ (Int.mul_pos (den_pos p) (den_pos q))
  · rw [Int.natAbs_mul]
    exact pow_add_lt hp.1 hq.1
  · rw [Int.natAbs_mul]
    exact pow_add_lt (by simpa using hp.2) (by simpa using hq.2)
theorem Sm.neg {n : Nat} {p : Rat} (hp : Sm n p) : Sm n (-p) := by
  refine ⟨?_, ?_⟩
  · rw [Rat.neg_num, Int.natAbs_neg]
    exact hp.1
  · have : (-p).den = p.den := rfl
    rw [this]
    exact hp.2
theorem Sm.sub {n m : Nat} {p q : Rat} (hp : Sm n p) (hq : Sm m q) : Sm (n + m + 1) (p - q) := by
  rw [Rat.sub_eq_add_neg]
  exact hp.add hq.neg
theorem sm_zero {n : Nat} : Sm (n + 1) 0 := ⟨by show 0 < _; exact Nat.two_pow_pos _, by show 1 < 2 ^ (n + 1); rw [Nat.pow_succ]; have := Nat.two_pow_pos n; omega⟩
theorem Sm.pos {n : Nat} {p : Rat} (hp : Sm n p) : 0 < n := by
  rcases Nat.eq_zero_or_pos n with h | h
  · have h1 := hp.2
    rw [h] at h1
    have := p.den_pos
    omega
  · exact h
theorem Sm.inv {n : Nat} {p : Rat} (hp : Sm n p) : Sm n p⁻¹ := by
  by_cases h : p.num = 0
  · have e : p = 0 := Rat.num_eq_zero.mp h
    have h0 := hp.pos
    obtain ⟨m, rfl⟩ : ∃ m, n = m + 1 := ⟨n - 1, by omega⟩
    rw [e, Rat.inv_zero]
    exact sm_zero
  · rw [Rat.inv_def]
    exact sm_ofZ (by simpa using hp.2) hp.1 h
theorem Sm.div {n m : Nat} {p q : Rat} (hp : Sm n p) (hq : Sm m q) : Sm (n + m) (p / q) := by
  rw [Rat.div_def]
  exact hp.mul hq.inv
theorem sm_int {k : Int} {n : Nat} (h : k.natAbs < 2 ^ n) (h0 : 0 < n) : Sm n (k : Rat) := by
  refine ⟨h, ?_⟩
  show 1 < 2 ^ n
  exact Nat.one_lt_two_pow (by omega)
end Ph
set_option linter.all false
set_option maxRecDepth 100000
set_option maxHeartbeats 4000000
namespace Ph
open PySem PySem.Spec PyProof.Rows L2
/-! ### built-in names that the module leaves alone -/
structure Bl (mg : Str → Option Value) : Prop where
  abs : mg "abs" = none
  len : mg "len" = none
  list : mg "list" = none
  tuple : mg "tuple" = none
  sum : mg "sum" = none
  isinstance : mg "isinstance" = none
  all : mg "all" = none
  any : mg "any" = none
  enumerate : mg "enumerate" = none
  zip : mg "zip" = none
  range : mg "range" = none
  min : mg "min" = none
  int : mg "int" = none
  bool : mg "bool" = none
  str : mg "str" = none
  repr : mg "repr" = none
section
variable {X : Cx} {es : List Expr} {e : Expr} {t : TA} {p pos : Pos}
theorem pb_abs (B : Bl X.mg) (ha : PA X (e :: es) t) (hg : Gl X "abs" := by rfl) (he : starEach (e :: es) X.env = (false, eval e X.env) :: starEach es X.env := by rfl) (hpl : (backTo pos (starEach es X.env)).any (·.1) = false := by rfl) :
    PE X (.Call (.Name "abs" p) (e :: es) [] pos) (tCB (fun xs H Q => ∃ i, xs = [.int i] ∧ Q (.int (if i < 0 then -i else i)) H) t) :=
  pe_callB (X := X) (p := p) (pos := pos) call_abs hg B.abs (by decide +kernel) ha (he := he) (hpl := hpl)
end
/-! ### // of any two numbers: the model asks for room under the limit of frames -/
section
variable {X : Cx}
structure Deep (X : Cx) : Prop where
  seer : X.base.NoSeer
  tree : X.prog.given.tree = none
  stk : ∃ env l, X.stack = env :: l ∧ env.scope.isGenerator = false ∧ env.scope.isCoroutine = false ∧ env.builtins = builtinsNs ∧ env.globals = mainGlobals
  room : X.A.depth + 100 < recursionLimit
theorem op_fdivP (d : Deep X) : OpR X (binaryOp .FloorDiv) (rI (fun _ j => 0 < j) fun i j => .int (i / j)) := by
  intro pins s σ H x y v u Q I rx ry h
  obtain ⟨i, j, rfl, rfl, hc, q⟩ := h
  obtain ⟨t, rfl⟩ := rx
  obtain ⟨t', rfl⟩ := ry
  obtain ⟨env, l, e1, e2, e3, e4, e5⟩ := d.stk
  have hN : s.heap.NoSeer := d.seer.keeps I.bk
  have hf : X.A.frames = some (env :: l) := by rw [I.ok.frames, e1]
  have hS : SeerAt (model X.prog X.w) X.A s.heap := SeerAt.of hN d.tree hf e2 e3 e4 e5
  refine floordiv_int (by omega) ?_ (.inr (PylongRoom.of I.nolimit d.room hS))
  rw [Int.fdiv_eq_ediv_of_nonneg i (by omega)]
  exact ⟨.int (i / j), H, I.tok _, ⟨_, rfl⟩, q⟩
end
/-! ### numbers in the heap -/
/-- a tuple of two ints -/
def Tw (H : Hp) (v : V) (n d : Int) : Prop := ∃ a, v = .ref a ∧ H a = some (.tup [.int n, .int d])
theorem Tw.ext {H H' : Hp} {v : V} {n d : Int} (h : Tw H v n d) (e : Same H H') : Tw H' v n d := let ⟨a, b, c⟩ := h; ⟨a, b, e _ _ c⟩
abbrev TwQ (H : Hp) (v : V) (q : Rat) : Prop := Tw H v q.num q.den
def flds (n d : Int) : List (Str × V) := putF "under" (.int 1) (putF "over" (.int 0) (putF "sign" (.int 0) (putF "bottom" (.int d) (putF "top" (.int n) []))))
theorem neS1 : ¬ (("top" : Str) = "bottom") ∧ ¬ (("top" : Str) = "sign") ∧ ¬ (("top" : Str) = "over") ∧ ¬ (("top" : Str) = "under") := by decide +kernel
theorem neS2 : ¬ (("bottom" : Str) = "sign") ∧ ¬ (("bottom" : Str) = "over") ∧ ¬ (("bottom" : Str) = "under") ∧ ¬ (("sign" : Str) = "over") ∧ ¬ (("sign" : Str) = "under") ∧ ¬ (("over" : Str) = "under") := by decide +kernel
theorem flT (n d : Int) : (flds n d).lookup ("top" : Str) = some (.int n) := by
  unfold flds
  rw [lookup_putF, if_neg neS1.2.2.2, lookup_putF, if_neg neS1.2.2.1, lookup_putF, if_neg neS1.2.1, lookup_putF, if_neg neS1.1, lookup_putF, if_pos rfl]
theorem flB (n d : Int) : (flds n d).lookup ("bottom" : Str) = some (.int d) := by
  unfold flds
  rw [lookup_putF, if_neg neS2.2.2.1, lookup_putF, if_neg neS2.2.1, lookup_putF, if_neg neS2.1, lookup_putF, if_pos rfl]
theorem flS (n d : Int) : (flds n d).lookup ("sign" : Str) = some (.int 0) := by
  unfold flds
  rw [lookup_putF, if_neg neS2.2.2.2.2.1, lookup_putF, if_neg neS2.2.2.2.1, lookup_putF, if_pos rfl]
theorem flO (n d : Int) : (flds n d).lookup ("over" : Str) = some (.int 0) := by
  unfold flds
  rw [lookup_putF, if_neg neS2.2.2.2.2.2, lookup_putF, if_pos rfl]
theorem flU (n d : Int) : (flds n d).lookup ("under" : Str) = some (.int 1) := by
  unfold flds
  rw [lookup_putF, if_pos rfl]
theorem putF_len (f : Str) (v : V) : ∀ (n : Nat) (fs : List (Str × V)), fs.length ≤ n → (putF f v fs).length ≤ n + 1
  | _, [], _ => by
    show 1 ≤ _
    omega
  | 0, _ :: _, h => by simp at h
  | n + 1, (g, x) :: r, h => by
    show (if g = f then (g, v) :: r else (g, x) :: putF f v r).length ≤ _
    split
    · exact Nat.le_succ_of_le h
    · exact Nat.succ_le_succ (putF_len f v n r (Nat.le_of_succ_le_succ h))
theorem th {n m : Nat} (h : n ≤ m) (hm : m < 1000 := by decide) : n < 1000 := Nat.lt_of_le_of_lt h hm
/-- an Exact of no root -/
def Num (C : Addr) (H : Hp) (v : V) (q : Rat) : Prop := ∃ a dx, v = .ref a ∧ H a = some (.ins C dx (flds q.num q.den))
theorem Num.ext {C : Addr} {H H' : Hp} {v : V} {q : Rat} (h : Num C H v q) (e : Same H H') : Num C H' v q := let ⟨a, dx, b, c⟩ := h; ⟨a, dx, b, e _ _ c⟩
theorem same_new {H : Hp} {p : Addr} {o : HO} (h : H p = none) : Same H (upd H p o) := fun b u e => by
  rw [upd_ne (ne_of_none e h)]
  exact e
section
variable {P : Program} {w : World} {K : PySem.W.Frag} {mg : Str → Option Value} {base : Heap}
/-! ### lowest -/
abbrev s_lowest : Stmt := top 9
theorem sc_lowest : FnScope ["top", "bottom", "one", "other", "by"] ["top", "bottom"] (defScope s_lowest) := ⟨rfl, rfl, rfl, by decide +kernel, rfl, by decide +kernel, by decide +kernel⟩
def spLowest : Sp := fun vs H Q _ => ∃ t b : Int, vs = [.int t, .int b] ∧ 0 < b ∧ ∀ v H', Same H H' → TwQ H' v (Rat.divInt t b) → Q v H'
theorem ok_lowest (B : Bl mg) (NS : base.NoSeer) (ht : P.given.tree = none) (F : FnAt K mg "lowest" s_lowest) : Cal P w K mg base CX0 34 "lowest" ["top", "bottom"] spLowest := by
  refine Cal.of0 F sc_lowest (fun _ _ _ _ _ _ us hl => match us, hl with | [_, _], _ => rfl) (fun vs H Q E h => ?_) (fun f cdv A outer s H vs Q E hr h => ?_)
  · obtain ⟨t, b, rfl, _⟩ := h
    rfl
  · obtain ⟨t, b, rfl, hb, k⟩ := h
    have dp : Deep (cxOf CX0 P w K mg base ["top", "bottom", "one", "other", "by"] "lowest" (defScope s_lowest) f cdv A outer s H E).nox := ⟨NS, ht, ⟨_, _, rfl, rfl, rfl, rfl, rfl⟩, by have h1 := hr.dp; change Around.depth (A.deeper _) + 100 < _; omega⟩
    refine ⟨_, (pss_cons (ps_par (i := 2) (j := 3) (by rfl) sc_lowest.nd rfl rfl (by decide) rfl rfl (pa_cons (pb_abs B (pa_cons (pv 0) pa_nil)) (pa_cons (pb_abs B (pa_cons (pv 1) pa_nil)) pa_nil)) (by rfl))
      (pss_cons (ps_while PassesOwn.never (pt_cmpR op_ne (pv 3) pe_int (nomark _)) (pss_one (ps_par (i := 2) (j := 3) (by rfl) sc_lowest.nd rfl rfl (by decide) rfl rfl (pa_cons (pv 3) (pa_cons (pe_op op_mod (pv 2) (pv 3)) pa_nil)) (by rfl))))
      (pss_cons (ps_set (i := 4) sc_lowest.nd rfl (.inl rfl) (pe_ifExp (pt_cmpR op_gt (pv 1) pe_int (nomark _)) (pv 2) (pe_op op_sub pe_int (pv 2))))
      (pss_one (ps_ret (pe_tup (pa_cons (pe_op (op_fdivP dp) (pv 0) (pv 4)) (pa_cons (pe_op (op_fdivP dp) (pv 1) (pv 4)) pa_nil)))))))), ?_⟩
    refine ⟨_, rfl, _, rfl, _, rfl, _, rfl, _, _, rfl, ?_⟩
    refine while_by (fun σ' H' => Same H H' ∧ ∃ m n : Nat, σ' = [some (.int t), some (.int b), some (.int (m : Int)), some (.int (n : Int)), none] ∧ Nat.gcd m n = Nat.gcd t.natAbs b.natAbs)
      (fun σ' _ => match σ' with | [_, _, _, some (.int n), _] => n.toNat | _ => 0) ⟨Same.refl H, t.natAbs, b.natAbs, ?_, rfl⟩ ?_ ?_
    · have e1 : (if t < 0 then -t else t) = (t.natAbs : Int) := by split <;> omega
      have e2 : (if b < 0 then -b else b) = (b.natAbs : Int) := by split <;> omega
      rw [e1, e2]
      rfl
    · rintro σ' H' ⟨s1, m, n, rfl, hg⟩
      refine ⟨_, rfl, rfl, _, rfl, ?_⟩
      by_cases hn : n = 0
      · subst hn
        refine no (by simp) ?_
        have em : m = Nat.gcd t.natAbs b.natAbs := by rw [← hg, Nat.gcd_zero_right]
        have m0 : 0 < m := by
          rw [em]
          exact Nat.gcd_pos_of_pos_right _ (by omega)
        refine ⟨_, rfl, _, _, rfl, rfl, _, rfl, ?_⟩
        refine yes (by simpa using hb) ?_
        refine ⟨_, rfl, ?_⟩
        refine ⟨_, rfl, _, rfl, _, _, rfl, rfl, (by omega), _, rfl, _, rfl, _, _, rfl, rfl, (by omega), by show 2 ≤ sizeLine; decide, fun p hp => ?_⟩
        refine k _ _ (s1.trans (same_new hp)) ⟨p, rfl, ?_⟩
        rw [upd_same, num_of hb, den_of hb, em]
      · refine yes (by simp; omega) ?_
        refine ⟨_, rfl, _, rfl, _, rfl, _, _, rfl, rfl, (by omega), _, _, rfl, ⟨s1, n, m % n, ?_, ?_⟩, ?_⟩
        · rfl
        · rw [← hg, Nat.gcd_comm n (m % n), ← Nat.gcd_rec, Nat.gcd_comm]
        · show ((m : Int) % (n : Int)).toNat < (n : Int).toNat
          have := Nat.mod_lt m (Nat.pos_of_ne_zero hn)
          omega
    · rintro σ' H' Q1 Q2 hq ⟨v, e, h2, c, e3, e4⟩
      exact ⟨v, e, h2, c, e3, hq _ _ e4⟩
end
end Ph
set_option linter.all false
set_option maxRecDepth 100000
set_option maxHeartbeats 40000000
namespace Ph
open PySem PySem.Spec PyProof.Rows L2
/-! ### the class Exact -/
abbrev I4 (i : Int) : Prop := i.natAbs < 2 ^ 4000000
/-- * of two factors of together less than some hundred million bits -/
def CMulV (i j : Int) : Prop := i.natAbs.log2 + j.natAbs.log2 < 100000000
theorem ibits_le (x : Int) : Builtin.Int.intBits x ≤ x.natAbs.log2 + 1 := by
  unfold Builtin.Int.intBits
  split <;> omega
theorem CMulV.fits {i j : Int} (h : CMulV i j) : IntMulOk i j := by
  intro z
  have z2 := (Bool.and_eq_true _ _ ▸ z).2
  unfold Builtin.Int.intTooBig at z2
  have z3 := of_decide_eq_true z2
  rw [show bitsLine = 134217728 by decide] at z3
  have hi := ibits_le i
  have hj := ibits_le j
  have hs : i.natAbs.log2 + j.natAbs.log2 < 100000000 := h
  omega
theorem op_mulV {X : Cx} : OpR X (binaryOp .Mult) (rI CMulV fun i j => .int (i * j)) := opI fun _ _ _ _ _ _ _ hc q => mul_int q hc.fits
theorem mw {i j : Int} (hi : I4 i) (hj : I4 j) : CMulV i j := by
  have x := PySem.Flt.log2_lt_of (by decide) hi
  have y := PySem.Flt.log2_lt_of (by decide) hj
  unfold CMulV
  omega
theorem i4_of {i : Int} (h : i.natAbs < 2 ^ 64) : I4 i := Nat.lt_of_lt_of_le h (Nat.pow_le_pow_right (by decide) (by decide))
theorem i4_0 : I4 0 := i4_of (by decide)
theorem i4_1 : I4 1 := i4_of (by decide)
structure Tx (K : PySem.W.Frag) (mg : Str → Option Value) (CE : Addr) : Prop where
  mgE : mg "Exact" = some (.ref CE)
  cl : Cls K CE
  nT : NoAttr K CE "top"
  nB : NoAttr K CE "bottom"
  nS : NoAttr K CE "sign"
  nO : NoAttr K CE "over"
  nU : NoAttr K CE "under"
  isc : PySem.W.findIn K (.ref CE) "__class__" = some (some (.builtin "object.__class__"))
  isn : PySem.W.specialIn K (.builtin "object.__class__") "__get__" = some (some (.builtin "getset_descriptor.__get__"))
  ist : PySem.W.takesIn K (.builtin "object.__class__") = some true
  mro : PySem.W.mroIn K CE (.type "object") = some true
  notT : PySem.W.kitOne K (.ref CE) (.type "tuple") = some false
  tupE : PySem.W.kitOne K (.type "tuple") (.ref CE) = some false
  lstE : PySem.W.kitOne K (.type "list") (.ref CE) = some false
  boolI : PySem.W.kitOne K (.type "int") (.type "bool") = some false
section
variable {P : Program} {w : World} {K : PySem.W.Frag} {mg : Str → Option Value} {base : Heap} {CE : Addr}
/-! ### is_whole -/
abbrev s_is_whole : Stmt := top 8
theorem sc_is_whole : FnScope ["thing"] ["thing"] (defScope s_is_whole) := ⟨rfl, rfl, rfl, by decide +kernel, rfl, by decide +kernel, by decide +kernel⟩
def spWhole : Sp := fun vs H Q _ => ∃ n : Int, vs = [.int n] ∧ Q (.bl true) H
theorem ok_is_whole (B : Bl mg) (T : Tx K mg CE) (F : FnAt K mg "is_whole" s_is_whole) : Cal P w K mg base CX0 1 "is_whole" ["thing"] spWhole := by
  refine Cal.of0 F sc_is_whole (fun _ _ _ _ _ _ us hl => match us, hl with | [_], _ => rfl) (fun vs H Q E h => ?_) (fun f cdv A outer s H vs Q E hr h => ?_)
  · obtain ⟨n, rfl, _⟩ := h
    rfl
  · obtain ⟨n, rfl, k⟩ := h
    refine ⟨_, (pss_one (ps_ret (pe_and (pe_callB call_isi (by rfl) B.isinstance (by decide +kernel) (pa_cons (pv 0) (pa_cons (pe_bltn (v := .ty "int") (by rfl) B.int (by decide +kernel) rfl) pa_nil))) (pe_one (pe_not (pe_callB call_isi (by rfl) B.isinstance (by decide +kernel) (pa_cons (pv 0) (pa_cons (pe_bltn (v := .ty "bool") (by rfl) B.bool (by decide +kernel) rfl) pa_nil)))))))), ?_⟩
    refine ⟨_, rfl, _, _, _, _, _, rfl, .ty _, .base (.int n), rfl, true, rfl, ?_⟩
    refine yes rfl ?_
    exact ⟨_, rfl, _, _, _, _, _, rfl, .ty _, .base (.int n), T.boolI, false, rfl, k⟩
/-! ### whole_root, root_of: of 0 and 1 -/
abbrev s_whole_root : Stmt := top 10
theorem sc_whole_root : FnScope ["number", "found", "lesser"] ["number"] (defScope s_whole_root) := ⟨rfl, rfl, rfl, by decide +kernel, rfl, by decide +kernel, by decide +kernel⟩
def spWRoot : Sp := fun vs H Q _ => ∃ n : Int, vs = [.int n] ∧ n < 2 ∧ Q (.int n) H
theorem ok_whole_root (F : FnAt K mg "whole_root" s_whole_root) : Cal P w K mg base CX0 1 "whole_root" ["number"] spWRoot := by
  refine Cal.of0 F sc_whole_root (fun _ _ _ _ _ _ us hl => match us, hl with | [_], _ => rfl) (fun vs H Q E h => ?_) (fun f cdv A outer s H vs Q E hr h => ?_)
  · obtain ⟨n, rfl, _⟩ := h
    rfl
  · obtain ⟨n, rfl, hn, k⟩ := h
    refine ⟨_, pss_cons (ps_if (pt_cmpR op_lt (pv 0) pe_int (nomark _)) (pss_one (ps_ret (pv 0))) pss_nil)
      (pss_cons ps_never (pss_cons ps_never (pss_cons ps_never (pss_one ps_never)))), ?_⟩
    refine ⟨_, rfl, _, _, rfl, rfl, _, rfl, ?_⟩
    refine yes (by simpa using hn) ?_
    exact ⟨_, rfl, k⟩
abbrev s_root_of_e : Stmt := top 11
theorem sc_root_of_e : FnScope ["top", "bottom", "one", "other"] ["top", "bottom"] (defScope s_root_of_e) := ⟨rfl, rfl, rfl, by decide +kernel, rfl, by decide +kernel, by decide +kernel⟩
def spRoot : Sp := fun vs H Q _ => vs = [.int 0, .int 1] ∧ ∀ v H', Same H H' → Tw H' v 0 1 → Q v H'
theorem ok_root_of (c_whole_root : Cal P w K mg base CX0 1 "whole_root" ["number"] spWRoot) (F : FnAs K mg "root_of_exacts" "root_of" s_root_of_e) : Cal P w K mg base CX0 2 "root_of_exacts" ["top", "bottom"] spRoot := by
  refine Cal.of0 F sc_root_of_e (fun _ _ _ _ _ _ us hl => match us, hl with | [_, _], _ => rfl) (fun vs H Q E h => ?_) (fun f cdv A outer s H vs Q E hr h => ?_)
  · obtain ⟨rfl, _⟩ := h
    rfl
  · obtain ⟨rfl, k⟩ := h
    refine ⟨_, (pss_cons (ps_par (i := 2) (j := 3) (by rfl) sc_root_of_e.nd rfl rfl (by decide) rfl rfl (pa_cons (pe_c c_whole_root (hr.mono (by omega)) (pa_cons (pv 0) pa_nil)) (pa_cons (pe_c c_whole_root (hr.mono (by omega)) (pa_cons (pv 1) pa_nil)) pa_nil)) (by rfl))
      (pss_cons (ps_if (PW.pt (pw_or (pt_cmpR op_ne (pe_op op_mulV (pv 2) (pv 2)) (pv 0) (by first | exact nomark _ | rfl)) (pw_or1 (pt_cmpR op_ne (pe_op op_mulV (pv 3) (pv 3)) (pv 1) (by first | exact nomark _ | rfl))))) (pss_one (ps_ret pe_non)) pss_nil)
      (pss_one (ps_ret (pe_tup (pa_cons (pv 2) (pa_cons (pv 3) pa_nil))))))), ?_⟩
    refine ⟨_, rfl, _, rfl, by decide, _, rfl, _, rfl, by decide, _, _, rfl, ?_⟩
    refine ⟨_, rfl, _, rfl, _, _, rfl, rfl, mw i4_0 i4_0, _, rfl, rfl, _, rfl, ?_⟩
    refine no (by decide) ?_
    refine ⟨_, rfl, _, rfl, _, _, rfl, rfl, mw i4_1 i4_1, _, rfl, rfl, _, rfl, ?_⟩
    refine no (by decide) ?_
    exact ⟨_, rfl, _, rfl, by show 2 ≤ sizeLine; decide, fun p hp => k _ _ (same_new hp) ⟨p, rfl, upd_same⟩⟩
/-! ### sign_in -/
def sgn (n : Int) : Int := if n = 0 then 0 else if 0 < n then 1 else -1
abbrev s_sign_in : Stmt := top 13
theorem sc_sign_in : FnScope ["number"] ["number"] (defScope s_sign_in) := ⟨rfl, rfl, rfl, by decide +kernel, rfl, by decide +kernel, by decide +kernel⟩
def spSignIn : Sp := fun vs H Q _ => ∃ n : Int, vs = [.int n] ∧ Q (.int (sgn n)) H
theorem ok_sign_in (F : FnAt K mg "sign_in" s_sign_in) : Cal P w K mg base CX0 1 "sign_in" ["number"] spSignIn := by
  refine Cal.of0 F sc_sign_in (fun _ _ _ _ _ _ us hl => match us, hl with | [_], _ => rfl) (fun vs H Q E h => ?_) (fun f cdv A outer s H vs Q E hr h => ?_)
  · obtain ⟨n, rfl, _⟩ := h
    rfl
  · obtain ⟨n, rfl, k⟩ := h
    refine ⟨_, (pss_cons (ps_if (pt_cmpR op_eq (pv 0) pe_int (by first | exact nomark _ | rfl)) (pss_one (ps_ret pe_int)) pss_nil)
      (pss_one (ps_ret (pe_ifExp (pt_cmpR op_gt (pv 0) pe_int (by first | exact nomark _ | rfl)) pe_int (pe_un un_neg pe_int))))), ?_⟩
    refine ⟨_, rfl, rfl, _, rfl, ?_⟩
    unfold sgn at k
    by_cases h0 : n = 0
    · refine yes (by simp [h0]) ?_
      rw [if_pos h0] at k
      exact k
    · refine no (by simp [h0]) ?_
      rw [if_neg h0] at k
      refine ⟨_, rfl, _, _, rfl, rfl, _, rfl, ?_⟩
      by_cases h1 : 0 < n
      · refine yes (by simpa using h1) ?_
        rw [if_pos h1] at k
        exact k
      · refine no (by simpa using h1) ?_
        rw [if_neg h1] at k
        exact ⟨_, rfl, k⟩
/-! ### sum_of, product_of -/
abbrev s_sum_of : Stmt := top 14
theorem sc_sum_of : FnScope ["one", "other"] ["one", "other"] (defScope s_sum_of) := ⟨rfl, rfl, rfl, by decide +kernel, rfl, by decide +kernel, by decide +kernel⟩
def spSumOf : Sp := fun vs H Q _ => ∃ (v1 v2 : V) (a b c d : Int), vs = [v1, v2] ∧ Tw H v1 a b ∧ Tw H v2 c d ∧ I4 a ∧ I4 b ∧ I4 c ∧ I4 d ∧ 0 < b ∧ 0 < d ∧ ∀ v H', Same H H' → TwQ H' v (Rat.divInt (a * d + c * b) (b * d)) → Q v H'
theorem ok_sum_of (c_lowest : Cal P w K mg base CX0 34 "lowest" ["top", "bottom"] spLowest) (F : FnAt K mg "sum_of" s_sum_of) : Cal P w K mg base CX0 35 "sum_of" ["one", "other"] spSumOf := by
  refine Cal.of0 F sc_sum_of (fun _ _ _ _ _ _ us hl => match us, hl with | [_, _], _ => rfl) (fun vs H Q E h => ?_) (fun f cdv A outer s H vs Q E hr h => ?_)
  · obtain ⟨v1, v2, a, b, c, d, rfl, _⟩ := h
    rfl
  · obtain ⟨v1, v2, a, b, c, d, rfl, ⟨p1, rfl, h1⟩, ⟨p2, rfl, h2⟩, ia, ib, ic, id, b0, d0, k⟩ := h
    refine ⟨_, (pss_one (ps_ret (pe_c c_lowest (hr.mono (by omega)) (pa_cons (pe_op op_add (pe_op op_mulV (pe_ix ix_tup (pv 0) pe_int (fun _ _ => rfl)) (pe_ix ix_tup (pv 1) pe_int (fun _ _ => rfl))) (pe_op op_mulV (pe_ix ix_tup (pv 1) pe_int (fun _ _ => rfl)) (pe_ix ix_tup (pv 0) pe_int (fun _ _ => rfl)))) (pa_cons (pe_op op_mulV (pe_ix ix_tup (pv 0) pe_int (fun _ _ => rfl)) (pe_ix ix_tup (pv 1) pe_int (fun _ _ => rfl))) pa_nil))))), ?_⟩
    refine ⟨_, rfl, _, _, _, _, rfl, rfl, SqT.of h1, rfl, _, rfl, _, _, _, _, rfl, rfl, SqT.of h2, rfl, _, _, rfl, rfl, mw ia id, ?_⟩
    refine ⟨_, rfl, _, _, _, _, rfl, rfl, SqT.of h2, rfl, _, rfl, _, _, _, _, rfl, rfl, SqT.of h1, rfl, _, _, rfl, rfl, mw ic ib, _, _, rfl, rfl, ?_⟩
    refine ⟨_, rfl, _, _, _, _, rfl, rfl, SqT.of h1, rfl, _, rfl, _, _, _, _, rfl, rfl, SqT.of h2, rfl, _, _, rfl, rfl, mw ib id, ?_⟩
    exact ⟨_, _, rfl, Int.mul_pos b0 d0, k⟩
abbrev s_product_of : Stmt := top 15
theorem sc_product_of : FnScope ["one", "other"] ["one", "other"] (defScope s_product_of) := ⟨rfl, rfl, rfl, by decide +kernel, rfl, by decide +kernel, by decide +kernel⟩
def spProdOf : Sp := fun vs H Q _ => ∃ (v1 v2 : V) (a b c d : Int), vs = [v1, v2] ∧ Tw H v1 a b ∧ Tw H v2 c d ∧ I4 a ∧ I4 b ∧ I4 c ∧ I4 d ∧ 0 < b ∧ 0 < d ∧ ∀ v H', Same H H' → TwQ H' v (Rat.divInt (a * c) (b * d)) → Q v H'
theorem ok_product_of (c_lowest : Cal P w K mg base CX0 34 "lowest" ["top", "bottom"] spLowest) (F : FnAt K mg "product_of" s_product_of) : Cal P w K mg base CX0 35 "product_of" ["one", "other"] spProdOf := by
  refine Cal.of0 F sc_product_of (fun _ _ _ _ _ _ us hl => match us, hl with | [_, _], _ => rfl) (fun vs H Q E h => ?_) (fun f cdv A outer s H vs Q E hr h => ?_)
  · obtain ⟨v1, v2, a, b, c, d, rfl, _⟩ := h
    rfl
  · obtain ⟨v1, v2, a, b, c, d, rfl, ⟨p1, rfl, h1⟩, ⟨p2, rfl, h2⟩, ia, ib, ic, id, b0, d0, k⟩ := h
    refine ⟨_, (pss_one (ps_ret (pe_c c_lowest (hr.mono (by omega)) (pa_cons (pe_op op_mulV (pe_ix ix_tup (pv 0) pe_int (fun _ _ => rfl)) (pe_ix ix_tup (pv 1) pe_int (fun _ _ => rfl))) (pa_cons (pe_op op_mulV (pe_ix ix_tup (pv 0) pe_int (fun _ _ => rfl)) (pe_ix ix_tup (pv 1) pe_int (fun _ _ => rfl))) pa_nil))))), ?_⟩
    refine ⟨_, rfl, _, _, _, _, rfl, rfl, SqT.of h1, rfl, _, rfl, _, _, _, _, rfl, rfl, SqT.of h2, rfl, _, _, rfl, rfl, mw ia ic, ?_⟩
    refine ⟨_, rfl, _, _, _, _, rfl, rfl, SqT.of h1, rfl, _, rfl, _, _, _, _, rfl, rfl, SqT.of h2, rfl, _, _, rfl, rfl, mw ib id, ?_⟩
    exact ⟨_, _, rfl, Int.mul_pos b0 d0, k⟩
/-! ### are_right -/
abbrev s_are_right : Stmt := top 16
theorem sc_are_right : FnScope ["top", "bottom", "sign", "over", "under", "one"] ["top", "bottom", "sign", "over", "under"] (defScope s_are_right) := ⟨rfl, rfl, rfl, by decide +kernel, rfl, by decide +kernel, by decide +kernel⟩
def spRight : Sp := fun vs H Q _ => ∃ t b : Int, vs = [.int t, .int b, .int 0, .int 0, .int 1] ∧ 0 < b ∧ ∀ H', Same H H' → Q (.bl true) H'
theorem ok_are_right (B : Bl mg) (c_is_whole : Cal P w K mg base CX0 1 "is_whole" ["thing"] spWhole) (F : FnAt K mg "are_right" s_are_right) : Cal P w K mg base CX0 2 "are_right" ["top", "bottom", "sign", "over", "under"] spRight := by
  refine Cal.of0 F sc_are_right (fun _ _ _ _ _ _ us hl => match us, hl with | [_, _, _, _, _], _ => rfl) (fun vs H Q E h => ?_) (fun f cdv A outer s H vs Q E hr h => ?_)
  · obtain ⟨t, b, rfl, _⟩ := h
    rfl
  · obtain ⟨t, b, rfl, b0, k⟩ := h
    refine ⟨_, (pss_cons (ps_if (pt_not (pt_val (pe_callB (cr_all rfl) (by rfl) B.all (by decide +kernel) (pa_cons (pe_lc (own := [("one", 5)]) (g := gName 5)  (by rfl) sc_are_right.nd (pi_tup (pe_tup (pa_cons (pv 0) (pa_cons (pv 1) (pa_cons (pv 2) (pa_cons (pv 3) (pa_cons (pv 4) pa_nil))))))) (blkOk_by (own := [("one", 5)]) (N := ["top", "bottom", "sign", "over", "under", "one"]) (sc := defScope s_are_right) (by decide +kernel)) (fun _ _ _ _ _ => (pg_name (i := 5) sc_are_right.nd rfl (by first | exact Or.inl rfl | exact Or.inr rfl))) (fun _ _ _ _ _ => pts_nil) (fun _ _ _ _ _ => (pe_c c_is_whole (hr.mono (by omega)) (pa_cons (pv 5) pa_nil)))) pa_nil)))) (pss_one (ps_ret pe_bl)) pss_nil)
      (pss_one (ps_ret (pe_and (pe_cmpR op_gt (pv 1) pe_int (by first | exact nomark _ | rfl)) (pe_and (pe_cmpR op_gt (pv 4) pe_int (by first | exact nomark _ | rfl)) (pe_and (pe_cmpR op_ge (pv 3) pe_int (by first | exact nomark _ | rfl)) (pe_one (pe_chain op_le op_le (pe_un un_neg pe_int) (pv 2) pe_int)))))))), ?_⟩
    refine ⟨_, rfl, _, rfl, _, rfl, _, rfl, _, rfl, by show 5 ≤ sizeLine; decide, fun p hp => ?_⟩
    refine ⟨p, rfl, ⟨_, SqT.of upd_same⟩, fun D hD => ?_⟩
    have nD : D ≠ p := fun z => by
      rw [z, upd_same] at hD
      cases hD
    refine lc_tup (K := K) (a := p) (xs := [.int t, .int b, .int 0, .int 0, .int 1]) (fun i H' => Same H H' ∧ H' p = some (.tup [.int t, .int b, .int 0, .int 0, .int 1]) ∧ H' D = some (.lst ((List.replicate i true).map V.bl))) ⟨?_, ?_, upd_same⟩ (fun i H' _ h => SqT.of h.2.1) ?_ ?_
    · exact (same_new hp).trans (same_new hD)
    · rw [upd_ne (Ne.symm nD), upd_same]
    · rintro i x H' hx ⟨s1, h1, h2⟩
      have hi : i < 5 := (List.getElem?_eq_some_iff.mp hx).1
      obtain ⟨n, rfl⟩ : ∃ n : Int, x = .int n := by
        have hm := List.mem_of_getElem? hx
        simp only [List.mem_cons, List.not_mem_nil, or_false] at hm
        rcases hm with h | h | h | h | h <;> exact ⟨_, h⟩
      refine ⟨rfl, ?_⟩
      refine ⟨_, rfl, n, rfl, _, h2, ?_, ?_, ?_, ?_⟩
      · simp only [List.length_map, List.length_replicate]
        exact small1000 (by omega)
      · exact fun c o e => by
          rw [upd_ne (fun z => by rw [z] at e; rw [upd_ne nD] at hD; rw [hD] at e; cases e)]
          exact s1 _ _ e
      · rw [upd_ne (Ne.symm nD)]
        exact h1
      · rw [upd_same, List.replicate_succ', List.map_append]
        rfl
    · rintro H' ⟨s1, h1, h2⟩
      refine ⟨D, List.replicate 5 true, rfl, SqL.of h2, _, rfl, ?_⟩
      refine no rfl ?_
      refine ⟨_, rfl, _, _, rfl, rfl, true, (by simpa using b0), ?_⟩
      refine yes rfl ?_
      refine ⟨_, rfl, _, _, rfl, rfl, true, rfl, ?_⟩
      refine yes rfl ?_
      refine ⟨_, rfl, _, _, rfl, rfl, true, rfl, ?_⟩
      refine yes rfl ?_
      refine ⟨_, rfl, _, rfl, _, _, rfl, rfl, true, rfl, ?_⟩
      refine yes rfl ?_
      exact ⟨_, _, rfl, rfl, k _ s1⟩
end
end Ph
set_option linter.all false
set_option maxRecDepth 100000
set_option maxHeartbeats 40000000
set_option exponentiation.threshold 500
namespace Ph
open PySem PySem.Spec PyProof.Rows L2
section
variable {P : Program} {w : World} {K : PySem.W.Frag} {mg : Str → Option Value} {base : Heap} {CE : Addr}
/-! ### Exact.__init__ -/
theorem tw01 {H : Hp} {v : V} (h : TwQ H v (Rat.divInt 0 1)) : Tw H v 0 1 := h
abbrev s_init : Stmt := inClass (top 17) 0
abbrev psI : List Str := ["self", "top", "bottom", "sign", "over", "under"]
theorem sc_init : FnScope ["self", "top", "bottom", "sign", "over", "under", "part", "radix", "root"] psI (defScope s_init) := ⟨rfl, rfl, rfl, by decide +kernel, rfl, by decide +kernel, by decide +kernel⟩
def spInit (CE : Addr) : Sp := fun vs H Q _ => ∃ (p dx : Addr) (t b : Int), vs = [.ref p, .int t, .int b, .int 0, .int 0, .int 1] ∧ 0 < b ∧ I4 t ∧ I4 b ∧ H p = some (.ins CE dx []) ∧
  ∀ H', (∀ c o, H c = some o → c ≠ p → H' c = some o) → H' p = some (.ins CE dx (flds (Rat.divInt t b).num (Rat.divInt t b).den)) → Q .non H'
structure InitAt (K : PySem.W.Frag) (CE : Addr) : Prop where
  ex : ∃ f fd, FunD K "__init__" "Exact.__init__" (defArgs s_init) (defBody s_init) (defScope s_init) [.int 1] [("sign", .int 0), ("over", .int 0), ("under", .int 1)] f fd ∧ Mk K CE f
theorem ok_init (T : Tx K mg CE) (c_are_right : Cal P w K mg base CX0 2 "are_right" ["top", "bottom", "sign", "over", "under"] spRight) (c_lowest : Cal P w K mg base CX0 34 "lowest" ["top", "bottom"] spLowest)
    (c_root_of_exacts : Cal P w K mg base CX0 2 "root_of_exacts" ["top", "bottom"] spRoot) (c_sum_of : Cal P w K mg base CX0 35 "sum_of" ["one", "other"] spSumOf) {f : Addr} {fd : FuncData}
    (F : FunD K "__init__" "Exact.__init__" (defArgs s_init) (defBody s_init) (defScope s_init) [.int 1] [("sign", .int 0), ("over", .int 0), ("under", .int 1)] f fd) : FnOk P w K mg base CX0 36 f fd psI (spInit CE) := by
  refine F.ok sc_init (fun vs H Q E h => ?_) (fun cdv A outer s H vs Q E hr h => ?_)
  · obtain ⟨p, dx, t, b, rfl, _⟩ := h
    rfl
  · obtain ⟨p, dx, t, b, rfl, b0, it, ib, hp, k⟩ := h
    suffices z : ∃ t, PSs (cxOf CX0 P w K mg base ["self", "top", "bottom", "sign", "over", "under", "part", "radix", "root"] "Exact.__init__" (defScope s_init) f cdv A outer s H E).nox (defBody s_init) t ∧ t { nx := fun _ H' => Q .non H', rt := Q } (start ["self", "top", "bottom", "sign", "over", "under", "part", "radix", "root"] _) H by
      obtain ⟨t, a, b⟩ := z
      exact ⟨t, a.nox, b⟩
    refine ⟨_, (pss_cons (ps_if (pt_not (pt_val (pe_c c_are_right (hr.mono (by omega)) (pa_cons (pv 1) (pa_cons (pv 2) (pa_cons (pv 3) (pa_cons (pv 4) (pa_cons (pv 5) pa_nil)))))))) (pss_one (ps_never)) pss_nil)
      (pss_cons (ps_par (i := 6) (j := 7) (by rfl) sc_init.nd rfl rfl (by decide) rfl rfl (pa_cons (pe_tup (pa_cons (pv 1) (pa_cons (pv 2) pa_nil))) (pa_cons (pe_c c_lowest (hr.mono (by omega)) (pa_cons (pv 4) (pa_cons (pv 5) pa_nil))) pa_nil)) (by rfl))
      (pss_cons (ps_set (i := 8) sc_init.nd rfl (by first | exact Or.inl rfl | exact Or.inr rfl) (pe_c c_root_of_exacts (hr.mono (by omega)) (pa_cons (pe_ix ix_tup (pv 7) pe_int (fun _ _ => rfl)) (pa_cons (pe_ix ix_tup (pv 7) pe_int (fun _ _ => rfl)) pa_nil))))
      (pss_cons (ps_if (pt_cmp (pc_notN (pv 8))) (pss_one (ps_set (i := 6) sc_init.nd rfl (by first | exact Or.inl rfl | exact Or.inr rfl) (pe_c c_sum_of (hr.mono (by omega)) (pa_cons (pv 6) (pa_cons (pe_tup (pa_cons (pe_op op_mulV (pv 3) (pe_ix ix_tup (pv 8) pe_int (fun _ _ => rfl))) (pa_cons (pe_ix ix_tup (pv 8) pe_int (fun _ _ => rfl)) pa_nil))) pa_nil))))) pss_nil)
      (pss_cons (ps_if (PW.pt (pw_or (pt_cmp (pc_notN (pv 8))) (pw_or1 (pt_cmpR op_eq (pv 3) pe_int (by first | exact nomark _ | rfl))))) (pss_one (ps_asg (pe_tup (pa_cons pe_int (pa_cons (pe_tup (pa_cons pe_int (pa_cons pe_int pa_nil))) pa_nil))) (pg_tup rfl (pgs_cons (pg_name (i := 3) sc_init.nd rfl (by first | exact Or.inl rfl | exact Or.inr rfl)) (pgs_cons (pg_name (i := 7) sc_init.nd rfl (by first | exact Or.inl rfl | exact Or.inr rfl)) pgs_nil))))) pss_nil)
      (pss_cons (ps_asg (pe_c c_lowest (hr.mono (by omega)) (pa_cons (pe_ix ix_tup (pv 6) pe_int (fun _ _ => rfl)) (pa_cons (pe_ix ix_tup (pv 6) pe_int (fun _ _ => rfl)) pa_nil))) (pg_tup rfl (pgs_cons (pg_fld (pv 0)) (pgs_cons (pg_fld (pv 0)) pgs_nil))))
      (pss_cons (ps_fld (pv 0) (pv 3) rfl)
      (pss_one (ps_asg (pv 7) (pg_tup rfl (pgs_cons (pg_fld (pv 0)) (pgs_cons (pg_fld (pv 0)) pgs_nil)))))))))))), ?_⟩
    refine ⟨_, rfl, _, rfl, _, rfl, _, rfl, _, rfl, t, b, rfl, b0, fun H1 s1 => ⟨true, rfl, ?_⟩⟩
    refine no rfl ?_
    refine ⟨_, rfl, _, rfl, by show 2 ≤ sizeLine; decide, fun p1 hp1 => ⟨_, rfl, _, rfl, 0, 1, rfl, by decide, fun v2 H2 s2 h2 => ⟨_, _, rfl, ?_⟩⟩⟩
    obtain ⟨p2, rfl, h2'⟩ := tw01 h2
    refine ⟨_, rfl, _, _, _, _, rfl, rfl, SqT.of h2', rfl, _, rfl, _, _, _, _, rfl, rfl, SqT.of h2', rfl, rfl, fun v3 H3 s3 h3 => ?_⟩
    obtain ⟨p3, rfl, h3'⟩ := h3
    refine ⟨_, rfl, _, rfl, ?_⟩
    refine yes rfl ?_
    have hp1' : H3 p1 = some (.tup [.int t, .int b]) := s3 _ _ (s2 _ _ upd_same)
    refine ⟨_, rfl, _, rfl, _, rfl, _, _, _, _, rfl, rfl, SqT.of h3', rfl, _, _, rfl, rfl, mw i4_0 i4_0, _, rfl, _, _, _, _, rfl, rfl, SqT.of h3', rfl, by show 2 ≤ sizeLine; decide, fun p4 hp4 => ?_⟩
    refine ⟨_, _, t, b, 0 * 0, 1, rfl, ⟨p1, rfl, same_new hp4 _ _ hp1'⟩, ⟨p4, rfl, upd_same⟩, it, ib, i4_0, i4_1, b0, by decide, fun v5 H5 s5 h5 => ?_⟩
    obtain ⟨p5, rfl, h5'⟩ := h5
    refine ⟨_, rfl, _, rfl, ?_⟩
    refine yes rfl ?_
    refine yes rfl ?_
    refine ⟨by show 2 ≤ sizeLine; decide, fun p6 hp6 => ⟨by show 2 ≤ sizeLine; decide, fun p8 hp8 => ⟨p8, _, rfl, SqT.of upd_same, rfl, _, _, rfl, _, _, rfl, rfl, ?_⟩⟩⟩
    have eq : Rat.divInt (t * 1 + 0 * 0 * b) (b * 1) = Rat.divInt t b := by simp
    rw [eq] at h5'
    have h5'' := same_new (o := .tup [.int 0, .ref p6]) hp8 _ _ (same_new (o := .tup [.int 0, .int 1]) hp6 _ _ h5')
    have dp := den_pos (Rat.divInt t b)
    refine ⟨_, rfl, _, _, _, _, rfl, rfl, SqT.of h5'', rfl, _, rfl, _, _, _, _, rfl, rfl, SqT.of h5'', rfl, _, _, rfl, dp, fun v7 H7 s7 h7 => ?_⟩
    rw [Rat.num_divInt_den] at h7
    obtain ⟨p7, rfl, h7'⟩ := h7
    have sHp : ∀ c o, H c = some o → H7 c = some o := fun c o e => s7 _ _ (same_new hp8 _ _ (same_new hp6 _ _ (s5 _ _ (same_new hp4 _ _ (s3 _ _ (s2 _ _ (same_new hp1 _ _ (s1 _ _ e))))))))
    have hp7 := sHp _ _ hp
    have h67 : H7 p6 = some (.tup [.int 0, .int 1]) := s7 _ _ (same_new hp8 _ _ upd_same)
    have n6 : p6 ≠ p := ne_of h67 hp7 (by intro z; cases z)
    refine ⟨p7, _, rfl, SqT.of h7', rfl, ?_⟩
    refine ⟨_, _, rfl, _, rfl, p, CE, dx, _, rfl, hp7, T.cl, T.nT, by decide, ?_⟩
    refine ⟨_, _, rfl, _, rfl, p, CE, dx, _, rfl, upd_same, T.cl, T.nB, th (putF_len _ _ 0 _ (by decide)), rfl, ?_⟩
    refine ⟨_, rfl, _, rfl, p, CE, dx, _, rfl, upd_same, T.cl, T.nS, th (putF_len _ _ 1 _ (putF_len _ _ 0 _ (by decide))), ?_⟩
    refine ⟨_, rfl, p6, _, rfl, SqT.of (by rw [upd_ne n6, upd_ne n6, upd_ne n6]; exact h67), rfl, ?_⟩
    refine ⟨_, _, rfl, _, rfl, p, CE, dx, _, rfl, upd_same, T.cl, T.nO, th (putF_len _ _ 2 _ (putF_len _ _ 1 _ (putF_len _ _ 0 _ (by decide)))), ?_⟩
    refine ⟨_, _, rfl, _, rfl, p, CE, dx, _, rfl, upd_same, T.cl, T.nU, th (putF_len _ _ 3 _ (putF_len _ _ 2 _ (putF_len _ _ 1 _ (putF_len _ _ 0 _ (by decide))))), rfl, ?_⟩
    refine k _ (fun c o e ne => ?_) upd_same
    rw [upd_ne ne, upd_ne ne, upd_ne ne, upd_ne ne, upd_ne ne]
    exact sHp _ _ e
end
end Ph
set_option linter.all false
set_option maxRecDepth 100000
set_option maxHeartbeats 40000000
set_option exponentiation.threshold 500
namespace Ph
open PySem PySem.Spec PyProof.Rows L2
/-! ### an Exact is made -/
structure Mks (P : Program) (w : World) (K : PySem.W.Frag) (mg : Str → Option Value) (base : Heap) (CE : Addr) : Prop where
  ex : ∃ f fd, FnOk P w K mg base CX0 36 f fd psI (spInit CE) ∧ Mk K CE f ∧ (∃ ds, Vals [V.int 1, V.int 0, V.int 0, V.int 1] ds ∧ Binds K fd psI ds) ∧ (∃ ds, Vals [V.int 0, V.int 0, V.int 1] ds ∧ Binds K fd psI ds) ∧
    ∃ its mv : List Value, KBn K fd psI 3 ["sign", "over", "under"] (fun us ws => us ++ ws) (fun us ws => us ++ ws)
section
variable {P : Program} {w : World} {K : PySem.W.Frag} {mg : Str → Option Value} {base : Heap} {CE : Addr}
theorem mks_of (I : InitAt K CE) (h : ∀ f fd, FunD K "__init__" "Exact.__init__" (defArgs s_init) (defBody s_init) (defScope s_init) [.int 1] [("sign", .int 0), ("over", .int 0), ("under", .int 1)] f fd → FnOk P w K mg base CX0 36 f fd psI (spInit CE)) : Mks P w K mg base CE := by
  obtain ⟨f, fd, F, M⟩ := I.ex
  refine ⟨f, fd, h f fd F, M, ?_, ?_, ?_⟩
  · refine F.binds (ps := psI) 2 0 (by simp) (by decide) (fun T D doc pm an cdv ct us its ks h1 h2 h3 => ?_) (by simp)
    match us, its, ks, h1, h2, h3 with
    | [a, b], [d], [x, y, z], _, _, _ => exact ⟨_, rfl, _, _, _, _, _, _, rfl, rfl, _, _, _, _, _, _, rfl, rfl, _, _, _, _, _, _, rfl, rfl, rfl⟩
  · refine F.binds (ps := psI) 3 1 (by simp) (by decide) (fun T D doc pm an cdv ct us its ks h1 h2 h3 => ?_) (by simp)
    match us, its, ks, h1, h2, h3 with
    | [a, b, c], [d], [x, y, z], _, _, _ => exact ⟨_, rfl, _, _, _, _, _, _, rfl, rfl, _, _, _, _, _, _, rfl, rfl, _, _, _, _, _, _, rfl, rfl, rfl⟩
  · refine F.kbinds (ps := psI) 3 ["sign", "over", "under"] [] (fun us _ _ ws => us ++ ws) (by simp) (by simp) (by simp) (fun a _ _ b => a.append b) (fun T D doc pm an cdv ct us its mv ws h1 h2 h3 h4 => ?_)
    match us, its, mv, ws, h1, h2, h3, h4 with
    | [a, b, c], [d], [], [x, y, z], _, _, _, _ => exact ⟨_, rfl, rfl⟩
theorem made_num {H : Hp} {R : Addr → Hp → Prop} {t b : Int} {E : XK} (b0 : 0 < b) (it : I4 t) (ib : I4 b) (k : ∀ x H', Same H H' → Num CE H' (.ref x) (Rat.divInt t b) → R x H') :
    ∀ x dx, H x = none → H dx = none → dx ≠ x → spInit CE [.ref x, .int t, .int b, .int 0, .int 0, .int 1] (upd (upd H dx (.own x)) x (.ins CE dx [])) (fun v H2 => v = .non ∧ R x H2) E := by
  intro x dx nx nd ne
  refine ⟨x, dx, t, b, rfl, b0, it, ib, upd_same, fun H' kp h => ⟨rfl, k _ H' (fun c o e => kp c o ?_ (ne_of_none e nx)) ⟨x, dx, rfl, h⟩⟩⟩
  rw [upd_ne (ne_of_none e nx), upd_ne (ne_of_none e nd)]
  exact e
theorem rat_int (n : Int) : Rat.divInt n 1 = (n : Rat) := by
  rw [← Rat.num_divInt_den (n : Rat)]
  rfl
end
section
variable {X : Cx} {CE : Addr} {p pos : Pos} {e : Expr} {es : List Expr} {t tk : TA}
theorem pe_e1 (M : Mks X.prog X.w X.K X.mg X.base CE) (T : Tx X.K X.mg CE) (hr : Room 37 X.A) (ha : PA X (e :: es) t) (hg : Gl X "Exact" := by rfl)
    (he : starEach (e :: es) X.env = (false, eval e X.env) :: starEach es X.env := by rfl) (hpl : (backTo pos (starEach es X.env)).any (·.1) = false := by rfl) :
    PE X (.Call (.Name "Exact" p) (e :: es) [] pos) (tMake CE (spInit CE) [.int 1, .int 0, .int 0, .int 1] E0 t) := by
  obtain ⟨f, fd, F, m, ⟨ds, d1, d2⟩, _⟩ := M.ex
  exact pe_make m F hr hg T.mgE d2 d1 pass0 ha (by decide) he hpl
theorem pe_e2 (M : Mks X.prog X.w X.K X.mg X.base CE) (T : Tx X.K X.mg CE) (hr : Room 37 X.A) (ha : PA X (e :: es) t) (hg : Gl X "Exact" := by rfl)
    (he : starEach (e :: es) X.env = (false, eval e X.env) :: starEach es X.env := by rfl) (hpl : (backTo pos (starEach es X.env)).any (·.1) = false := by rfl) :
    PE X (.Call (.Name "Exact" p) (e :: es) [] pos) (tMake CE (spInit CE) [.int 0, .int 0, .int 1] E0 t) := by
  obtain ⟨f, fd, F, m, _, ⟨ds, d1, d2⟩, _⟩ := M.ex
  exact pe_make m F hr hg T.mgE d2 d1 pass0 ha (by decide) he hpl
theorem pe_e5 {kws : List Keyword} (M : Mks X.prog X.w X.K X.mg X.base CE) (T : Tx X.K X.mg CE) (hr : Room 37 X.A) (ha : PA X (e :: es) t) (hk : PK X kws tk) (hg : Gl X "Exact" := by rfl)
    (hall : (backToKw pos (keywordEach kws X.env)).all (·.1.isSome) = true := by rfl) (hks : (backToKw pos (keywordEach kws X.env)).filterMap (·.1) = (["sign", "over", "under"] : List Str) := by rfl)
    (he : starEach (e :: es) X.env = (false, eval e X.env) :: starEach es X.env := by rfl) (hpl : ((backTo pos (starEach (e :: es) X.env)).any (·.1) || (backToKw pos (keywordEach kws X.env)).any (·.1.isNone)) = false := by rfl) :
    PE X (.Call (.Name "Exact" p) (e :: es) kws pos) (tMakeN CE 2 3 (spInit CE) (fun us ws => us ++ ws) E0 t tk) := by
  obtain ⟨f, fd, F, m, _, _, its, mv, kb⟩ := M.ex
  exact pe_makeN (ks := ["sign", "over", "under"]) m F hr hg T.mgE kb pass0 ha hk hall hks (by decide) he hpl
end
section
variable {P : Program} {w : World} {K : PySem.W.Frag} {mg : Str → Option Value} {base : Heap} {CE : Addr}
/-! ### quotient, opposite, shared_radix, made_of -/
abbrev s_quotient : Stmt := top 19
theorem sc_quotient : FnScope ["number"] ["number"] (defScope s_quotient) := ⟨rfl, rfl, rfl, by decide +kernel, rfl, by decide +kernel, by decide +kernel⟩
def spQuot (CE : Addr) : Sp := fun vs H Q _ => ∃ (v : V) (q : Rat), vs = [v] ∧ Num CE H v q ∧ ∀ u H', Same H H' → TwQ H' u q → Q u H'
theorem ok_quotient (T : Tx K mg CE) (F : FnAt K mg "quotient" s_quotient) : Cal P w K mg base CX0 1 "quotient" ["number"] (spQuot CE) := by
  refine Cal.of0 F sc_quotient (fun _ _ _ _ _ _ us hl => match us, hl with | [_], _ => rfl) (fun vs H Q E h => ?_) (fun f cdv A outer s H vs Q E hr h => ?_)
  · obtain ⟨v, q, rfl, _⟩ := h
    rfl
  · obtain ⟨v, q, rfl, ⟨a, dx, rfl, h1⟩, k⟩ := h
    refine ⟨_, (pss_one (ps_ret (pe_tup (pa_cons (pe_fld (pv 0) rfl) (pa_cons (pe_fld (pv 0) rfl) pa_nil))))), ?_⟩
    exact ⟨_, rfl, a, CE, dx, _, _, rfl, h1, T.cl, T.nT, flT _ _, _, rfl, a, CE, dx, _, _, rfl, h1, T.cl, T.nB, flB _ _, by show 2 ≤ sizeLine; decide, fun p hp => k _ _ (same_new hp) ⟨p, rfl, upd_same⟩⟩
abbrev s_opposite : Stmt := top 20
theorem sc_opposite : FnScope ["number"] ["number"] (defScope s_opposite) := ⟨rfl, rfl, rfl, by decide +kernel, rfl, by decide +kernel, by decide +kernel⟩
def spOpp (CE : Addr) : Sp := fun vs H Q _ => ∃ (v : V) (q : Rat), vs = [v] ∧ Num CE H v q ∧ Sm 4000000 q ∧ ∀ u H', Same H H' → Num CE H' u (-q) → Q u H'
theorem neg_as (q : Rat) : Rat.divInt (0 - q.num) (q.den : Int) = -q := by
  rw [Int.zero_sub, ← Rat.neg_divInt, Rat.num_divInt_den]
theorem ok_opposite (M : Mks P w K mg base CE) (T : Tx K mg CE) (F : FnAt K mg "opposite" s_opposite) : Cal P w K mg base CX0 38 "opposite" ["number"] (spOpp CE) := by
  refine Cal.of0 F sc_opposite (fun _ _ _ _ _ _ us hl => match us, hl with | [_], _ => rfl) (fun vs H Q E h => ?_) (fun f cdv A outer s H vs Q E hr h => ?_)
  · obtain ⟨v, q, rfl, _⟩ := h
    rfl
  · obtain ⟨v, q, rfl, ⟨a, dx, rfl, h1⟩, z, k⟩ := h
    refine ⟨_, (pss_one (ps_ret (pe_e5 M T (hr.mono (by omega)) (pa_cons (pe_op op_sub pe_int (pe_fld (pv 0) rfl)) (pa_cons (pe_fld (pv 0) rfl) pa_nil)) (pk_cons (pe_op op_sub pe_int (pe_fld (pv 0) rfl)) (pk_cons (pe_fld (pv 0) rfl) (pk_cons (pe_fld (pv 0) rfl) pk_nil)))))), ?_⟩
    refine ⟨_, rfl, a, CE, dx, _, _, rfl, h1, T.cl, T.nT, flT _ _, _, _, rfl, rfl, _, rfl, a, CE, dx, _, _, rfl, h1, T.cl, T.nB, flB _ _, ?_⟩
    refine ⟨_, rfl, a, CE, dx, _, _, rfl, h1, T.cl, T.nS, flS _ _, _, _, rfl, rfl, _, rfl, a, CE, dx, _, _, rfl, h1, T.cl, T.nO, flO _ _, _, rfl, a, CE, dx, _, _, rfl, h1, T.cl, T.nU, flU _ _, rfl, rfl, ?_⟩
    refine made_num (t := 0 - q.num) (b := q.den) (den_pos q) (by show (0 - q.num).natAbs < _; rw [Int.zero_sub, Int.natAbs_neg]; exact z.1) z.2 fun x H' s1 hn => k (.ref x) H' s1 ?_
    rw [neg_as] at hn
    exact hn
def Rad (H : Hp) (v : V) : Prop := ∃ a v1 v2 v3, v = .ref a ∧ H a = some (.tup [v1, v2, v3]) ∧ Tw H v1 0 1 ∧ Tw H v2 0 1 ∧ Tw H v3 0 1
abbrev s_shared_radix : Stmt := top 21
theorem sc_shared_radix : FnScope ["one", "other", "many", "root"] ["one", "other"] (defScope s_shared_radix) := ⟨rfl, rfl, rfl, by decide +kernel, rfl, by decide +kernel, by decide +kernel⟩
def spShared (CE : Addr) : Sp := fun vs H Q _ => ∃ (v u : V) (q r : Rat), vs = [v, u] ∧ Num CE H v q ∧ Num CE H u r ∧ ∀ u H', Same H H' → Rad H' u → Q u H'
theorem ok_shared_radix (T : Tx K mg CE) (F : FnAt K mg "shared_radix" s_shared_radix) : Cal P w K mg base CX0 1 "shared_radix" ["one", "other"] (spShared CE) := by
  refine Cal.of0 F sc_shared_radix (fun _ _ _ _ _ _ us hl => match us, hl with | [_, _], _ => rfl) (fun vs H Q E h => ?_) (fun f cdv A outer s H vs Q E hr h => ?_)
  · obtain ⟨v, u, q, r, rfl, _⟩ := h
    rfl
  · obtain ⟨v, u, q, r, rfl, ⟨a, dx, rfl, h1⟩, ⟨b, dy, rfl, h2⟩, k⟩ := h
    refine ⟨_, (pss_cons (ps_if (pt_cmpR op_eq (pe_fld (pv 0) rfl) pe_int (by first | exact nomark _ | rfl)) (pss_one (ps_ret (pe_tup (pa_cons (pe_tup (pa_cons (pe_fld (pv 1) rfl) (pa_cons (pe_fld (pv 1) rfl) pa_nil))) (pa_cons (pe_tup (pa_cons pe_int (pa_cons pe_int pa_nil))) (pa_cons (pe_tup (pa_cons (pe_fld (pv 1) rfl) (pa_cons pe_int pa_nil))) pa_nil)))))) pss_nil)
      (pss_cons (ps_never)
      (pss_cons (ps_never)
      (pss_cons (ps_never)
      (pss_cons (ps_never)
      (pss_one (ps_never))))))), ?_⟩
    refine ⟨_, rfl, a, CE, dx, _, _, rfl, h1, T.cl, T.nS, flS _ _, rfl, _, rfl, ?_⟩
    refine yes rfl ?_
    refine ⟨_, rfl, b, CE, dy, _, _, rfl, h2, T.cl, T.nO, flO _ _, _, rfl, b, CE, dy, _, _, rfl, h2, T.cl, T.nU, flU _ _, by show 2 ≤ sizeLine; decide, fun p1 n1 => ?_⟩
    refine ⟨by show 2 ≤ sizeLine; decide, fun p2 n2 => ?_⟩
    have h3 := same_new (o := .tup [.int 0, .int 1]) n2 _ _ (same_new (o := .tup [.int 0, .int 1]) n1 _ _ h2)
    refine ⟨_, rfl, b, CE, dy, _, _, rfl, h3, T.cl, T.nS, flS _ _, by show 2 ≤ sizeLine; decide, fun p3 n3 => ⟨by show 3 ≤ sizeLine; decide, fun p4 n4 => ?_⟩⟩
    refine k _ _ ((((same_new n1).trans (same_new n2)).trans (same_new n3)).trans (same_new n4)) ⟨p4, _, _, _, rfl, upd_same, ⟨p1, rfl, ?_⟩, ⟨p2, rfl, ?_⟩, ⟨p3, rfl, same_new n4 _ _ upd_same⟩⟩
    · exact same_new n4 _ _ (same_new n3 _ _ (same_new n2 _ _ upd_same))
    · exact same_new n4 _ _ (same_new n3 _ _ upd_same)
abbrev s_made_of : Stmt := top 22
theorem sc_made_of : FnScope ["part", "many", "radix", "over", "under"] ["part", "many", "radix"] (defScope s_made_of) := ⟨rfl, rfl, rfl, by decide +kernel, rfl, by decide +kernel, by decide +kernel⟩
def spMadeOf (CE : Addr) : Sp := fun vs H Q _ => ∃ (v1 v2 v3 : V) (q : Rat), vs = [v1, v2, v3] ∧ TwQ H v1 q ∧ Tw H v2 0 1 ∧ Tw H v3 0 1 ∧ Sm 4000000 q ∧ ∀ u H', Same H H' → Num CE H' u q → Q u H'
theorem ok_made_of (M : Mks P w K mg base CE) (T : Tx K mg CE) (c_sign_in : Cal P w K mg base CX0 1 "sign_in" ["number"] spSignIn) (F : FnAt K mg "made_of" s_made_of) : Cal P w K mg base CX0 38 "made_of" ["part", "many", "radix"] (spMadeOf CE) := by
  refine Cal.of0 F sc_made_of (fun _ _ _ _ _ _ us hl => match us, hl with | [_, _, _], _ => rfl) (fun vs H Q E h => ?_) (fun f cdv A outer s H vs Q E hr h => ?_)
  · obtain ⟨v1, v2, v3, q, rfl, _⟩ := h
    rfl
  · obtain ⟨v1, v2, v3, q, rfl, ⟨p1, rfl, h1⟩, ⟨p2, rfl, h2⟩, ⟨p3, rfl, h3⟩, z, k⟩ := h
    refine ⟨_, (pss_cons (ps_par (i := 3) (j := 4) (by rfl) sc_made_of.nd rfl rfl (by decide) rfl rfl (pa_cons (pe_op op_mulV (pe_op op_mulV (pe_ix ix_tup (pv 1) pe_int (fun _ _ => rfl)) (pe_ix ix_tup (pv 1) pe_int (fun _ _ => rfl))) (pe_ix ix_tup (pv 2) pe_int (fun _ _ => rfl))) (pa_cons (pe_op op_mulV (pe_op op_mulV (pe_ix ix_tup (pv 1) pe_int (fun _ _ => rfl)) (pe_ix ix_tup (pv 1) pe_int (fun _ _ => rfl))) (pe_ix ix_tup (pv 2) pe_int (fun _ _ => rfl))) pa_nil)) (by rfl))
      (pss_one (ps_ret (pe_e5 M T (hr.mono (by omega)) (pa_cons (pe_ix ix_tup (pv 0) pe_int (fun _ _ => rfl)) (pa_cons (pe_ix ix_tup (pv 0) pe_int (fun _ _ => rfl)) pa_nil)) (pk_cons (pe_c c_sign_in (hr.mono (by omega)) (pa_cons (pe_ix ix_tup (pv 1) pe_int (fun _ _ => rfl)) pa_nil)) (pk_cons (pv 3) (pk_cons (pv 4) pk_nil))))))), ?_⟩
    refine ⟨_, rfl, _, _, _, _, rfl, rfl, SqT.of h2, rfl, _, rfl, _, _, _, _, rfl, rfl, SqT.of h2, rfl, _, _, rfl, rfl, mw i4_0 i4_0, _, rfl, _, _, _, _, rfl, rfl, SqT.of h3, rfl, _, _, rfl, rfl, mw i4_0 i4_0, ?_⟩
    refine ⟨_, rfl, _, _, _, _, rfl, rfl, SqT.of h2, rfl, _, rfl, _, _, _, _, rfl, rfl, SqT.of h2, rfl, _, _, rfl, rfl, mw i4_1 i4_1, _, rfl, _, _, _, _, rfl, rfl, SqT.of h3, rfl, _, _, rfl, rfl, mw i4_1 i4_1, _, _, rfl, ?_⟩
    refine ⟨_, rfl, _, _, _, _, rfl, rfl, SqT.of h1, rfl, _, rfl, _, _, _, _, rfl, rfl, SqT.of h1, rfl, ?_⟩
    refine ⟨_, rfl, _, _, _, _, rfl, rfl, SqT.of h2, rfl, 0, rfl, _, rfl, _, rfl, rfl, rfl, ?_⟩
    refine made_num (t := q.num) (b := q.den) (den_pos q) z.1 z.2 fun x H' s1 hn => k (.ref x) H' s1 ?_
    rw [Rat.num_divInt_den] at hn
    exact hn
end
end Ph
set_option linter.all false
set_option maxRecDepth 100000
set_option maxHeartbeats 40000000
set_option exponentiation.threshold 500
namespace Ph
open PySem PySem.Spec PyProof.Rows L2
theorem Sm.n4 {n : Nat} {q : Rat} (h : Sm n q) (hn : n ≤ 4000000) : I4 q.num := (h.mono hn).1
theorem Sm.d4 {n : Nat} {q : Rat} (h : Sm n q) (hn : n ≤ 4000000) : I4 (q.den : Int) := (h.mono hn).2
section
variable {P : Program} {w : World} {K : PySem.W.Frag} {mg : Str → Option Value} {base : Heap} {CE : Addr}
/-- two numbers in, one out -/
def spBin (CE : Addr) (C : Nat → Nat → Prop) (g : Rat → Rat → Rat) : Sp := fun vs H Q _ => ∃ (v u : V) (q r : Rat) (n m : Nat), vs = [v, u] ∧ Num CE H v q ∧ Num CE H u r ∧ Sm n q ∧ Sm m r ∧ C n m ∧ ∀ x H', Same H H' → Num CE H' x (g q r) → Q x H'
abbrev CAdd (n m : Nat) : Prop := n + m + 1 ≤ 4000000
abbrev s_plus : Stmt := inClass (top 17) 4
theorem sc_plus : FnScope ["self", "other", "radix", "mine", "theirs"] ["self", "other"] (defScope s_plus) := ⟨rfl, rfl, rfl, by decide +kernel, rfl, by decide +kernel, by decide +kernel⟩
theorem ok_plus (c_shared_radix : Cal P w K mg base CX0 1 "shared_radix" ["one", "other"] (spShared CE)) (c_made_of : Cal P w K mg base CX0 38 "made_of" ["part", "many", "radix"] (spMadeOf CE)) (c_sum_of : Cal P w K mg base CX0 35 "sum_of" ["one", "other"] spSumOf)
    (c_quotient : Cal P w K mg base CX0 1 "quotient" ["number"] (spQuot CE)) (F : MtAt K CE "plus" "Exact.plus" s_plus) : CalM P w K mg base CX0 39 CE "plus" ["self", "other"] (spBin CE CAdd (· + ·)) := by
  refine CalM.of0 F sc_plus (fun _ _ _ _ _ _ us hl => match us, hl with | [_, _], _ => rfl) (fun vs H Q E h => ?_) (fun f cdv A outer s H vs Q E hr h => ?_)
  · obtain ⟨v, u, q, r, n, m, rfl, _⟩ := h
    rfl
  · obtain ⟨v, u, q, r, n, m, rfl, hq, hR, zq, zr, hc, k⟩ := h
    refine ⟨_, (pss_cons (ps_asg (pe_c c_shared_radix (hr.mono (by omega)) (pa_cons (pv 0) (pa_cons (pv 1) pa_nil))) (pg_tup rfl (pgs_cons (pg_name (i := 2) sc_plus.nd rfl (by first | exact Or.inl rfl | exact Or.inr rfl)) (pgs_cons (pg_name (i := 3) sc_plus.nd rfl (by first | exact Or.inl rfl | exact Or.inr rfl)) (pgs_cons (pg_name (i := 4) sc_plus.nd rfl (by first | exact Or.inl rfl | exact Or.inr rfl)) pgs_nil)))))
      (pss_one (ps_ret (pe_c c_made_of (hr.mono (by omega)) (pa_cons (pe_c c_sum_of (hr.mono (by omega)) (pa_cons (pe_c c_quotient (hr.mono (by omega)) (pa_cons (pv 0) pa_nil)) (pa_cons (pe_c c_quotient (hr.mono (by omega)) (pa_cons (pv 1) pa_nil)) pa_nil))) (pa_cons (pe_c c_sum_of (hr.mono (by omega)) (pa_cons (pv 3) (pa_cons (pv 4) pa_nil))) (pa_cons (pv 2) pa_nil))))))), ?_⟩
    refine ⟨_, rfl, _, rfl, v, u, q, r, rfl, hq, hR, fun v1 H1 s1 h1 => ?_⟩
    obtain ⟨a, w1, w2, w3, rfl, ha, t1, t2, t3⟩ := h1
    refine ⟨a, _, rfl, SqT.of ha, rfl, _, _, rfl, _, _, rfl, _, _, rfl, rfl, ?_⟩
    refine ⟨_, rfl, v, q, rfl, hq.ext s1, fun v2 H2 s2 h2 => ?_⟩
    refine ⟨_, rfl, u, r, rfl, (hR.ext s1).ext s2, fun v3 H3 s3 h3 => ?_⟩
    refine ⟨v2, v3, _, _, _, _, rfl, h2.ext s3, h3, zq.n4 (by omega), zq.d4 (by omega), zr.n4 (by omega), zr.d4 (by omega), den_pos q, den_pos r, fun v4 H4 s4 h4 => ?_⟩
    rw [← add_as] at h4
    have s14 : Same H1 H4 := (s2.trans s3).trans s4
    refine ⟨_, rfl, _, rfl, w2, w3, 0, 1, 0, 1, rfl, t2.ext s14, t3.ext s14, i4_0, i4_1, i4_0, i4_1, by decide, by decide, fun v5 H5 s5 h5 => ?_⟩
    refine ⟨_, rfl, v4, v5, w1, q + r, rfl, h4.ext s5, h5, t1.ext (s14.trans s5), (zq.add zr).mono hc, fun x H6 s6 h6 => ?_⟩
    exact k x H6 (((s1.trans s14).trans s5).trans s6) h6
abbrev s_minus : Stmt := inClass (top 17) 5
theorem sc_minus : FnScope ["self", "other"] ["self", "other"] (defScope s_minus) := ⟨rfl, rfl, rfl, by decide +kernel, rfl, by decide +kernel, by decide +kernel⟩
theorem num_no {n d : Int} {m : Str} (h1 : ¬ m = "top") (h2 : ¬ m = "bottom") (h3 : ¬ m = "sign") (h4 : ¬ m = "over") (h5 : ¬ m = "under") : (flds n d).lookup m = none := by
  unfold flds
  rw [lookup_putF, if_neg h5, lookup_putF, if_neg h4, lookup_putF, if_neg h3, lookup_putF, if_neg h2, lookup_putF, if_neg h1]
  rfl
theorem no_plus {n d : Int} : (flds n d).lookup ("plus" : Str) = none := num_no (by decide +kernel) (by decide +kernel) (by decide +kernel) (by decide +kernel) (by decide +kernel)
theorem no_minus {n d : Int} : (flds n d).lookup ("minus" : Str) = none := num_no (by decide +kernel) (by decide +kernel) (by decide +kernel) (by decide +kernel) (by decide +kernel)
theorem no_times {n d : Int} : (flds n d).lookup ("times" : Str) = none := num_no (by decide +kernel) (by decide +kernel) (by decide +kernel) (by decide +kernel) (by decide +kernel)
theorem no_by {n d : Int} : (flds n d).lookup ("by" : Str) = none := num_no (by decide +kernel) (by decide +kernel) (by decide +kernel) (by decide +kernel) (by decide +kernel)
theorem no_sign_of {n d : Int} : (flds n d).lookup ("sign_of" : Str) = none := num_no (by decide +kernel) (by decide +kernel) (by decide +kernel) (by decide +kernel) (by decide +kernel)
theorem ok_minus (T : Tx K mg CE) (m_plus : CalM P w K mg base CX0 39 CE "plus" ["self", "other"] (spBin CE CAdd (· + ·))) (c_opposite : Cal P w K mg base CX0 38 "opposite" ["number"] (spOpp CE))
    (F : MtAt K CE "minus" "Exact.minus" s_minus) : CalM P w K mg base CX0 40 CE "minus" ["self", "other"] (spBin CE CAdd (· - ·)) := by
  refine CalM.of0 F sc_minus (fun _ _ _ _ _ _ us hl => match us, hl with | [_, _], _ => rfl) (fun vs H Q E h => ?_) (fun f cdv A outer s H vs Q E hr h => ?_)
  · obtain ⟨v, u, q, r, n, m, rfl, _⟩ := h
    rfl
  · obtain ⟨v, u, q, r, n, m, rfl, ⟨a, dx, rfl, ha⟩, hR, zq, zr, hc, k⟩ := h
    refine ⟨_, (pss_one (ps_ret (pe_mt m_plus T.cl (hr.mono (by omega)) (pv 0) (pa_cons (pe_c c_opposite (hr.mono (by omega)) (pa_cons (pv 1) pa_nil)) pa_nil)))), ?_⟩
    refine ⟨_, rfl, a, dx, _, rfl, ha, no_plus, _, rfl, u, r, rfl, hR, zr.mono (by omega), fun v1 H1 s1 h1 => ?_⟩
    refine ⟨_, v1, q, -r, n, m, rfl, ⟨a, dx, rfl, s1 _ _ ha⟩, h1, zq, zr.neg, hc, fun x H2 s2 h2 => ?_⟩
    refine k x H2 (s1.trans s2) ?_
    show Num CE H2 x (q - r)
    rw [Rat.sub_eq_add_neg]
    exact h2
abbrev s_times : Stmt := inClass (top 17) 6
theorem sc_times : FnScope ["self", "other", "radix", "mine", "theirs", "one", "two", "part"] ["self", "other"] (defScope s_times) := ⟨rfl, rfl, rfl, by decide +kernel, rfl, by decide +kernel, by decide +kernel⟩
theorem tw01' {H : Hp} {v : V} {a b c d : Int} (h : TwQ H v (Rat.divInt (a * 0) (b * 1))) : Tw H v 0 1 := by
  rw [Int.mul_zero, Rat.zero_divInt] at h
  exact h
theorem ok_times (c_shared_radix : Cal P w K mg base CX0 1 "shared_radix" ["one", "other"] (spShared CE)) (c_made_of : Cal P w K mg base CX0 38 "made_of" ["part", "many", "radix"] (spMadeOf CE)) (c_sum_of : Cal P w K mg base CX0 35 "sum_of" ["one", "other"] spSumOf)
    (c_product_of : Cal P w K mg base CX0 35 "product_of" ["one", "other"] spProdOf) (c_quotient : Cal P w K mg base CX0 1 "quotient" ["number"] (spQuot CE)) (F : MtAt K CE "times" "Exact.times" s_times) :
    CalM P w K mg base CX0 39 CE "times" ["self", "other"] (spBin CE CAdd (· * ·)) := by
  refine CalM.of0 F sc_times (fun _ _ _ _ _ _ us hl => match us, hl with | [_, _], _ => rfl) (fun vs H Q E h => ?_) (fun f cdv A outer s H vs Q E hr h => ?_)
  · obtain ⟨v, u, q, r, n, m, rfl, _⟩ := h
    rfl
  · obtain ⟨v, u, q, r, n, m, rfl, hq, hR, zq, zr, hc, k⟩ := h
    refine ⟨_, (pss_cons (ps_asg (pe_c c_shared_radix (hr.mono (by omega)) (pa_cons (pv 0) (pa_cons (pv 1) pa_nil))) (pg_tup rfl (pgs_cons (pg_name (i := 2) sc_times.nd rfl (by first | exact Or.inl rfl | exact Or.inr rfl)) (pgs_cons (pg_name (i := 3) sc_times.nd rfl (by first | exact Or.inl rfl | exact Or.inr rfl)) (pgs_cons (pg_name (i := 4) sc_times.nd rfl (by first | exact Or.inl rfl | exact Or.inr rfl)) pgs_nil)))))
      (pss_cons (ps_par (i := 5) (j := 6) (by rfl) sc_times.nd rfl rfl (by decide) rfl rfl (pa_cons (pe_c c_quotient (hr.mono (by omega)) (pa_cons (pv 0) pa_nil)) (pa_cons (pe_c c_quotient (hr.mono (by omega)) (pa_cons (pv 1) pa_nil)) pa_nil)) (by rfl))
      (pss_cons (ps_set (i := 7) sc_times.nd rfl (by first | exact Or.inl rfl | exact Or.inr rfl) (pe_c c_sum_of (hr.mono (by omega)) (pa_cons (pe_c c_product_of (hr.mono (by omega)) (pa_cons (pv 5) (pa_cons (pv 6) pa_nil))) (pa_cons (pe_c c_product_of (hr.mono (by omega)) (pa_cons (pe_c c_product_of (hr.mono (by omega)) (pa_cons (pv 3) (pa_cons (pv 4) pa_nil))) (pa_cons (pv 2) pa_nil))) pa_nil))))
      (pss_one (ps_ret (pe_c c_made_of (hr.mono (by omega)) (pa_cons (pv 7) (pa_cons (pe_c c_sum_of (hr.mono (by omega)) (pa_cons (pe_c c_product_of (hr.mono (by omega)) (pa_cons (pv 5) (pa_cons (pv 4) pa_nil))) (pa_cons (pe_c c_product_of (hr.mono (by omega)) (pa_cons (pv 6) (pa_cons (pv 3) pa_nil))) pa_nil))) (pa_cons (pv 2) pa_nil))))))))), ?_⟩
    refine ⟨_, rfl, _, rfl, v, u, q, r, rfl, hq, hR, fun v1 H1 s1 h1 => ?_⟩
    obtain ⟨a, w1, w2, w3, rfl, ha, t1, t2, t3⟩ := h1
    refine ⟨a, _, rfl, SqT.of ha, rfl, _, _, rfl, _, _, rfl, _, _, rfl, rfl, ?_⟩
    refine ⟨_, rfl, v, q, rfl, hq.ext s1, fun v2 H2 s2 h2 => ?_⟩
    refine ⟨_, rfl, u, r, rfl, (hR.ext s1).ext s2, fun v3 H3 s3 h3 => ⟨_, _, rfl, ?_⟩⟩
    have h2' := h2.ext s3
    have nq := zq.n4 (by omega : n ≤ 4000000)
    have dq := zq.d4 (by omega : n ≤ 4000000)
    have nr := zr.n4 (by omega : m ≤ 4000000)
    have dr := zr.d4 (by omega : m ≤ 4000000)
    -- the part
    refine ⟨_, rfl, _, rfl, v2, v3, _, _, _, _, rfl, h2', h3, nq, dq, nr, dr, den_pos q, den_pos r, fun v4 H4 s4 h4 => ?_⟩
    rw [← mul_as] at h4
    have s14 : Same H1 H4 := (s2.trans s3).trans s4
    refine ⟨_, rfl, _, rfl, w2, w3, 0, 1, 0, 1, rfl, t2.ext s14, t3.ext s14, i4_0, i4_1, i4_0, i4_1, by decide, by decide, fun v5 H5 s5 h5 => ?_⟩
    have s15 : Same H1 H5 := s14.trans s5
    refine ⟨_, rfl, v5, w1, 0, 1, 0, 1, rfl, h5, t1.ext s15, i4_0, i4_1, i4_0, i4_1, by decide, by decide, fun v6 H6 s6 h6 => ?_⟩
    have s16 : Same H1 H6 := s15.trans s6
    have zp : Sm 4000000 (q * r) := (zq.mul zr).mono (by omega)
    refine ⟨v4, v6, _, _, 0, 1, rfl, h4.ext (s5.trans s6), h6, zp.1, zp.d4 (Nat.le_refl _), i4_0, i4_1, den_pos _, by decide, fun v7 H7 s7 h7 => ?_⟩
    rw [Int.mul_one, Int.zero_mul, Int.add_zero, Int.mul_one, Rat.num_divInt_den] at h7
    have s17 : Same H1 H7 := s16.trans s7
    have s37 : Same H3 H7 := ((s4.trans s5).trans s6).trans s7
    -- how many roots: none
    refine ⟨_, rfl, _, rfl, _, rfl, v2, w3, _, _, 0, 1, rfl, h2'.ext s37, t3.ext s17, nq, dq, i4_0, i4_1, den_pos q, by decide, fun v8 H8 s8 h8 => ?_⟩
    refine ⟨_, rfl, _, rfl, v3, w2, _, _, 0, 1, rfl, h3.ext (s37.trans s8), t2.ext (s17.trans s8), nr, dr, i4_0, i4_1, den_pos r, by decide, fun v9 H9 s9 h9 => ?_⟩
    refine ⟨v8, v9, 0, 1, 0, 1, rfl, (tw01' (a := q.num) (b := q.den) (c := 0) (d := 0) h8).ext s9, tw01' (a := r.num) (b := r.den) (c := 0) (d := 0) h9, i4_0, i4_1, i4_0, i4_1, by decide, by decide, fun v10 H10 s10 h10 => ?_⟩
    refine ⟨_, rfl, v7, v10, w1, q * r, rfl, h7.ext ((s8.trans s9).trans s10), h10, t1.ext (((s17.trans s8).trans s9).trans s10), zp, fun x H11 s11 h11 => ?_⟩
    exact k x H11 (((((s1.trans s17).trans s8).trans s9).trans s10).trans s11) h11
end
end Ph
set_option linter.all false
set_option maxRecDepth 100000
set_option maxHeartbeats 40000000
set_option exponentiation.threshold 500
namespace Ph
open PySem PySem.Spec PyProof.Rows L2
theorem rsq_pos {r : Rat} (h : r ≠ 0) : 0 < (r * r).num := by
  have h1 : 0 ≤ (r * r).num := by
    rw [mul_as, num_of (Int.mul_pos (den_pos r) (den_pos r))]
    exact Int.ediv_nonneg (by rcases Int.le_total 0 r.num with z | z <;> first | exact Int.mul_nonneg z z | exact Int.mul_nonneg_of_nonpos_of_nonpos z z) (by omega)
  have h2 : (r * r).num ≠ 0 := fun z => by
    have e : r * r = 0 := Rat.num_eq_zero.mp z
    rcases Rat.mul_eq_zero.mp e with e | e <;> exact h e
  omega
theorem inv_as {r : Rat} : Rat.divInt (r.den : Int) r.num = r⁻¹ := (Rat.inv_def r).symm
theorem div_as {q r : Rat} (h : r ≠ 0) : q * r * (r * r)⁻¹ = q / r := by
  grind
section
variable {P : Program} {w : World} {K : PySem.W.Frag} {mg : Str → Option Value} {base : Heap} {CE : Addr}
abbrev CBy (n m : Nat) : Prop := n + 3 * m + 1 ≤ 4000000
def spBy (CE : Addr) : Sp := fun vs H Q _ => ∃ (v u : V) (q r : Rat) (n m : Nat), vs = [v, u] ∧ Num CE H v q ∧ Num CE H u r ∧ Sm n q ∧ Sm m r ∧ CBy n m ∧ r ≠ 0 ∧ ∀ x H', Same H H' → Num CE H' x (q / r) → Q x H'
abbrev s_by : Stmt := inClass (top 17) 7
theorem sc_by : FnScope ["self", "other", "turned", "square"] ["self", "other"] (defScope s_by) := ⟨rfl, rfl, rfl, by decide +kernel, rfl, by decide +kernel, by decide +kernel⟩
theorem ok_by (M : Mks P w K mg base CE) (T : Tx K mg CE) (m_times : CalM P w K mg base CX0 39 CE "times" ["self", "other"] (spBin CE CAdd (· * ·))) (c_made_of : Cal P w K mg base CX0 38 "made_of" ["part", "many", "radix"] (spMadeOf CE))
    (c_lowest : Cal P w K mg base CX0 34 "lowest" ["top", "bottom"] spLowest) (F : MtAt K CE "by" "Exact.by" s_by) : CalM P w K mg base CX0 40 CE "by" ["self", "other"] (spBy CE) := by
  refine CalM.of0 F sc_by (fun _ _ _ _ _ _ us hl => match us, hl with | [_, _], _ => rfl) (fun vs H Q E h => ?_) (fun f cdv A outer s H vs Q E hr h => ?_)
  · obtain ⟨v, u, q, r, n, m, rfl, _⟩ := h
    rfl
  · obtain ⟨v, u, q, r, n, m, rfl, ⟨a, dx, rfl, ha⟩, ⟨b, dy, rfl, hb⟩, zq, zr, hc, r0, k⟩ := h
    refine ⟨_, (pss_cons (ps_if (PW.pt (pw_and (pt_cmpR op_eq (pe_fld (pv 1) rfl) pe_int (by first | exact nomark _ | rfl)) (pw_and1 (pt_cmpR op_eq (pe_fld (pv 1) rfl) pe_int (by first | exact nomark _ | rfl))))) (pss_one (ps_never)) pss_nil)
      (pss_cons (ps_set (i := 2) sc_by.nd rfl (by first | exact Or.inl rfl | exact Or.inr rfl) (pe_e5 M T (hr.mono (by omega)) (pa_cons (pe_fld (pv 1) rfl) (pa_cons (pe_fld (pv 1) rfl) pa_nil)) (pk_cons (pe_op op_sub pe_int (pe_fld (pv 1) rfl)) (pk_cons (pe_fld (pv 1) rfl) (pk_cons (pe_fld (pv 1) rfl) pk_nil)))))
      (pss_cons (ps_set (i := 3) sc_by.nd rfl (by first | exact Or.inl rfl | exact Or.inr rfl) (pe_mt m_times T.cl (hr.mono (by omega)) (pv 1) (pa_cons (pv 2) pa_nil)))
      (pss_one (ps_ret (pe_mt m_times T.cl (hr.mono (by omega)) (pe_mt m_times T.cl (hr.mono (by omega)) (pv 0) (pa_cons (pv 2) pa_nil)) (pa_cons (pe_c c_made_of (hr.mono (by omega)) (pa_cons (pe_c c_lowest (hr.mono (by omega)) (pa_cons (pe_fld (pv 3) rfl) (pa_cons (pe_fld (pv 3) rfl) pa_nil))) (pa_cons (pe_tup (pa_cons pe_int (pa_cons pe_int pa_nil))) (pa_cons (pe_tup (pa_cons pe_int (pa_cons pe_int pa_nil))) pa_nil)))) pa_nil))))))), ?_⟩
    have rn : r.num ≠ 0 := fun z => r0 (Rat.num_eq_zero.mp z)
    refine ⟨_, rfl, b, CE, dy, _, _, rfl, hb, T.cl, T.nT, flT _ _, rfl, _, rfl, ?_⟩
    refine no (by simpa using rn) ?_
    refine no rfl ?_
    -- turned: other itself, anew
    refine ⟨_, rfl, b, CE, dy, _, _, rfl, hb, T.cl, T.nT, flT _ _, _, rfl, b, CE, dy, _, _, rfl, hb, T.cl, T.nB, flB _ _, ?_⟩
    refine ⟨_, rfl, b, CE, dy, _, _, rfl, hb, T.cl, T.nS, flS _ _, _, _, rfl, rfl, _, rfl, b, CE, dy, _, _, rfl, hb, T.cl, T.nO, flO _ _, _, rfl, b, CE, dy, _, _, rfl, hb, T.cl, T.nU, flU _ _, rfl, rfl, ?_⟩
    refine made_num (t := r.num) (b := r.den) (den_pos r) (zr.n4 (by omega)) (zr.d4 (by omega)) fun v1 H1 s1 h1 => ?_
    rw [Rat.num_divInt_den] at h1
    -- square
    refine ⟨_, rfl, b, dy, _, rfl, s1 _ _ hb, no_times, _, rfl, _, .ref v1, r, r, m, m, rfl, ⟨b, dy, rfl, s1 _ _ hb⟩, h1, zr, zr, (by show m + m + 1 ≤ 4000000; omega), fun v2 H2 s2 h2 => ?_⟩
    -- self.times(turned)
    have ha2 := s2 _ _ (s1 _ _ ha)
    refine ⟨_, rfl, a, dx, _, rfl, ha2, no_times, _, rfl, _, .ref v1, q, r, n, m, rfl, ⟨a, dx, rfl, ha2⟩, h1.ext s2, zq, zr, (by show n + m + 1 ≤ 4000000; omega), fun v3 H3 s3 h3 => ?_⟩
    obtain ⟨a3, dx3, rfl, ha3⟩ := h3
    obtain ⟨a2, dx2, rfl, ha2'⟩ := h2.ext s3
    refine ⟨a3, dx3, _, rfl, ha3, no_times, ?_⟩
    have zs := zr.mul zr
    have sp := rsq_pos r0
    refine ⟨_, rfl, a2, CE, dx2, _, _, rfl, ha2', T.cl, T.nB, flB _ _, _, rfl, a2, CE, dx2, _, _, rfl, ha2', T.cl, T.nT, flT _ _, _, _, rfl, sp, fun v4 H4 s4 h4 => ?_⟩
    rw [inv_as] at h4
    refine ⟨by show 2 ≤ sizeLine; decide, fun p5 n5 => ⟨by show 2 ≤ sizeLine; decide, fun p6 n6 => ?_⟩⟩
    refine ⟨v4, .ref p5, .ref p6, (r * r)⁻¹, rfl, (h4.ext (same_new n5)).ext (same_new n6), ⟨p5, rfl, same_new n6 _ _ upd_same⟩, ⟨p6, rfl, upd_same⟩, zs.inv.mono (by omega), fun v7 H7 s7 h7 => ?_⟩
    have s47 : Same H4 H7 := ((same_new n5).trans (same_new n6)).trans s7
    refine ⟨_, v7, q * r, (r * r)⁻¹, n + m, m + m, rfl, ⟨a3, dx3, rfl, s47 _ _ (s4 _ _ ha3)⟩, h7, zq.mul zr, zs.inv, (by show n + m + (m + m) + 1 ≤ 4000000; omega), fun v8 H8 s8 h8 => ?_⟩
    refine k v8 H8 (((((s1.trans s2).trans s3).trans s4).trans s47).trans s8) ?_
    rw [← div_as r0]
    exact h8
abbrev s_sign_of : Stmt := inClass (top 17) 8
theorem sc_sign_of : FnScope ["self"] ["self"] (defScope s_sign_of) := ⟨rfl, rfl, rfl, by decide +kernel, rfl, by decide +kernel, by decide +kernel⟩
def spSign (CE : Addr) : Sp := fun vs H Q _ => ∃ (v : V) (q : Rat), vs = [v] ∧ Num CE H v q ∧ ∀ H', Same H H' → Q (.int (sgn q.num)) H'
theorem ok_sign_of (T : Tx K mg CE) (c_sign_in : Cal P w K mg base CX0 1 "sign_in" ["number"] spSignIn) (F : MtAt K CE "sign_of" "Exact.sign_of" s_sign_of) : CalM P w K mg base CX0 2 CE "sign_of" ["self"] (spSign CE) := by
  refine CalM.of0 F sc_sign_of (fun _ _ _ _ _ _ us hl => match us, hl with | [_], _ => rfl) (fun vs H Q E h => ?_) (fun f cdv A outer s H vs Q E hr h => ?_)
  · obtain ⟨v, q, rfl, _⟩ := h
    rfl
  · obtain ⟨v, q, rfl, ⟨a, dx, rfl, ha⟩, k⟩ := h
    refine ⟨_, (pss_cons (ps_if (pt_cmpR op_eq (pe_fld (pv 0) rfl) pe_int (by first | exact nomark _ | rfl)) (pss_one (ps_ret (pe_c c_sign_in (hr.mono (by omega)) (pa_cons (pe_fld (pv 0) rfl) pa_nil)))) pss_nil)
      (pss_cons (ps_never)
      (pss_cons (ps_never)
      (pss_one (ps_never))))), ?_⟩
    refine ⟨_, rfl, a, CE, dx, _, _, rfl, ha, T.cl, T.nS, flS _ _, rfl, _, rfl, ?_⟩
    refine yes rfl ?_
    exact ⟨_, rfl, a, CE, dx, _, _, rfl, ha, T.cl, T.nT, flT _ _, _, rfl, k _ (Same.refl H)⟩
theorem sgn_zero {q : Rat} : sgn q.num = 0 ↔ q = 0 := by
  unfold sgn
  constructor
  · intro h
    split at h
    · rename_i z
      exact Rat.num_eq_zero.mp z
    · split at h <;> omega
  · intro h
    rw [h]
    rfl
end
end Ph
set_option linter.all false
set_option maxRecDepth 100000
set_option maxHeartbeats 40000000
set_option exponentiation.threshold 500
namespace Ph
open PySem PySem.Spec PyProof.Rows L2
/-! ### what an expression comes to, by a property that stays -/
abbrev Ap : Type := Hp → V → Prop
def Mo (A : Ap) : Prop := ∀ H H' v, Same H H' → A H v → A H' v
def EG (A : Ap) (te : TE) (σ : L2.St) (H : Hp) : Prop := ∀ H1, Same H H1 → ∀ Q : VK, (∀ v H2, Same H1 H2 → A H2 v → Q v H2) → te σ H1 Q
section
variable {CE : Addr} {K : PySem.W.Frag} {σ : L2.St} {H : Hp} {A B C D : Ap} {ta tb tc te : TE} {sp : Sp} {E : XK}
theorem EG.run {Q : VK} (e : EG A te σ H) (k : ∀ v H2, Same H H2 → A H2 v → Q v H2) : te σ H Q := e H (Same.refl H) Q k
theorem EG.ext {H' : Hp} (e : EG A te σ H) (s : Same H H') : EG A te σ H' := fun H1 s1 Q k => e H1 (s.trans s1) Q k
theorem EG.imp (e : EG A te σ H) (h : ∀ H' v, A H' v → B H' v) : EG B te σ H := fun H1 s Q k => e H1 s Q fun v H2 s2 a => k v H2 s2 (h _ _ a)
theorem eg_var {i : Nat} {v : V} (h : σ[i]? = some (some v)) (m : Mo A) (a : A H v) : EG A (tVar i) σ H := fun H1 s Q k => ⟨v, h, k v H1 (Same.refl _) (m _ _ _ s a)⟩
theorem eg_c {v : V} (m : Mo A) (a : A H v) : EG A (tC v) σ H := fun H1 s Q k => k v H1 (Same.refl _) (m _ _ _ s a)
/-- an int, whatever the heap -/
def Iv (n : Int) : Ap := fun _ v => v = .int n
theorem mo_iv {n : Int} : Mo (Iv n) := fun _ _ _ _ a => a
theorem eg_int {n : Int} : EG (Iv n) (tC (.int n)) σ H := eg_c mo_iv rfl
/-- the k-th part of a tuple -/
theorem eg_ix {k : Nat} {v : V} (e : EG (fun H v => ∃ a xs y, v = .ref a ∧ H a = some (.tup xs) ∧ xs[k]? = some y ∧ A H y) te σ H) : EG A (tOp (rIxT K) te (tC (.int (k : Int)))) σ H := fun H1 s Q q =>
  e H1 s _ fun v H2 s2 ⟨a, xs, y, e1, e2, e3, e4⟩ => ⟨a, xs, _, y, e1, rfl, SqT.of e2, atI_nat e3, q y H2 s2 e4⟩
theorem eg_ixv {i k : Nat} {a : Addr} {xs : List V} {y : V} (h : σ[i]? = some (some (.ref a))) (ha : H a = some (.tup xs)) (hy : xs[k]? = some y) (m : Mo A) (hA : A H y) : EG A (tOp (rIxT K) (tVar i) (tC (.int (k : Int)))) σ H := fun H1 s Q q =>
  ⟨_, h, a, xs, _, y, rfl, rfl, SqT.of (s _ _ ha), atI_nat hy, q y H1 (Same.refl _) (m _ _ _ s hA)⟩
theorem eg_f1 (h : ∀ v H1 Q, A H1 v → (∀ x H2, Same H1 H2 → C H2 x → Q x H2) → sp [v] H1 Q E) (ea : EG A ta σ H) : EG C (tCall sp [] E (tCons ta tNil)) σ H := fun H1 s Q q =>
  ea H1 s _ fun v H2 s2 a => h v H2 Q a fun x H3 s3 c => q x H3 (s2.trans s3) c
theorem eg_f2 (h : ∀ v u H1 Q, A H1 v → B H1 u → (∀ x H2, Same H1 H2 → C H2 x → Q x H2) → sp [v, u] H1 Q E) (m : Mo A) (ea : EG A ta σ H) (eb : EG B tb σ H) : EG C (tCall sp [] E (tCons ta (tCons tb tNil))) σ H := fun H1 s Q q =>
  ea H1 s _ fun v H2 s2 a => eb H2 (s.trans s2) _ fun u H3 s3 b => h v u H3 Q (m _ _ _ s3 a) b fun x H4 s4 c => q x H4 ((s2.trans s3).trans s4) c
theorem eg_f3 (h : ∀ v u w H1 Q, A H1 v → B H1 u → C H1 w → (∀ x H2, Same H1 H2 → D H2 x → Q x H2) → sp [v, u, w] H1 Q E) (m : Mo A) (m2 : Mo B) (ea : EG A ta σ H) (eb : EG B tb σ H) (ec : EG C tc σ H) : EG D (tCall sp [] E (tCons ta (tCons tb (tCons tc tNil)))) σ H := fun H1 s Q q =>
  ea H1 s _ fun v H2 s2 a => eb H2 (s.trans s2) _ fun u H3 s3 b => ec H3 ((s.trans s2).trans s3) _ fun w H4 s4 c => h v u w H4 Q (m _ _ _ (s3.trans s4) a) (m2 _ _ _ s4 b) c fun x H5 s5 d => q x H5 (((s2.trans s3).trans s4).trans s5) d
theorem mo_num {q : Rat} : Mo (fun H v => Num CE H v q) := fun _ _ _ s a => a.ext s
abbrev Nm (CE : Addr) (q : Rat) : Ap := fun H v => Num CE H v q
theorem eg_bin {C2 : Nat → Nat → Prop} {g : Rat → Rat → Rat} {m : Str} {q r : Rat} {n l : Nat} (hm : ∀ n d, (flds n d).lookup m = none) (ea : EG (Nm CE q) ta σ H) (eb : EG (Nm CE r) tb σ H) (zq : Sm n q) (zr : Sm l r) (hc : C2 n l) :
    EG (Nm CE (g q r)) (tMeth CE m (spBin CE C2 g) [] E ta (tCons tb tNil)) σ H := fun H1 s Q k =>
  ea H1 s _ fun v H2 s2 ⟨a, dx, e1, e2⟩ => ⟨a, dx, _, e1, e2, hm _ _, eb H2 (s.trans s2) _ fun u H3 s3 b => ⟨v, u, q, r, n, l, rfl, ⟨a, dx, e1, s3 _ _ e2⟩, b, zq, zr, hc, fun x H4 s4 c => k x H4 ((s2.trans s3).trans s4) c⟩⟩
theorem eg_plus {q r : Rat} {n l : Nat} (ea : EG (Nm CE q) ta σ H) (eb : EG (Nm CE r) tb σ H) (zq : Sm n q) (zr : Sm l r) (hc : CAdd n l) : EG (Nm CE (q + r)) (tMeth CE "plus" (spBin CE CAdd (· + ·)) [] E ta (tCons tb tNil)) σ H := eg_bin (fun _ _ => no_plus) ea eb zq zr hc
theorem eg_minus {q r : Rat} {n l : Nat} (ea : EG (Nm CE q) ta σ H) (eb : EG (Nm CE r) tb σ H) (zq : Sm n q) (zr : Sm l r) (hc : CAdd n l) : EG (Nm CE (q - r)) (tMeth CE "minus" (spBin CE CAdd (· - ·)) [] E ta (tCons tb tNil)) σ H := eg_bin (fun _ _ => no_minus) ea eb zq zr hc
theorem eg_times {q r : Rat} {n l : Nat} (ea : EG (Nm CE q) ta σ H) (eb : EG (Nm CE r) tb σ H) (zq : Sm n q) (zr : Sm l r) (hc : CAdd n l) : EG (Nm CE (q * r)) (tMeth CE "times" (spBin CE CAdd (· * ·)) [] E ta (tCons tb tNil)) σ H := eg_bin (fun _ _ => no_times) ea eb zq zr hc
theorem eg_by {q r : Rat} {n l : Nat} (ea : EG (Nm CE q) ta σ H) (eb : EG (Nm CE r) tb σ H) (zq : Sm n q) (zr : Sm l r) (hc : CBy n l) (r0 : r ≠ 0) : EG (Nm CE (q / r)) (tMeth CE "by" (spBy CE) [] E ta (tCons tb tNil)) σ H := fun H1 s Q k =>
  ea H1 s _ fun v H2 s2 ⟨a, dx, e1, e2⟩ => ⟨a, dx, _, e1, e2, no_by, eb H2 (s.trans s2) _ fun u H3 s3 b => ⟨v, u, q, r, n, l, rfl, ⟨a, dx, e1, s3 _ _ e2⟩, b, zq, zr, hc, r0, fun x H4 s4 c => k x H4 ((s2.trans s3).trans s4) c⟩⟩
theorem eg_sign {q : Rat} (ea : EG (Nm CE q) ta σ H) : EG (Iv (sgn q.num)) (tMeth CE "sign_of" (spSign CE) [] E ta tNil) σ H := fun H1 s Q k =>
  ea H1 s _ fun v H2 s2 ⟨a, dx, e1, e2⟩ => ⟨a, dx, _, e1, e2, no_sign_of, v, q, rfl, ⟨a, dx, e1, e2⟩, fun H3 s3 => k _ H3 (s2.trans s3) rfl⟩
/-- Exact(n), Exact(n, d) -/
theorem eg_e1 {n : Int} (hn : I4 n) : EG (Nm CE (n : Rat)) (tMake CE (spInit CE) [.int 1, .int 0, .int 0, .int 1] E (tCons (tC (.int n)) tNil)) σ H := fun H1 s Q k =>
  made_num (t := n) (b := 1) (R := fun x H' => Q (.ref x) H') (by decide) hn i4_1 fun x H2 s2 h => by
    rw [rat_int] at h
    exact k _ H2 s2 h
theorem eg_e2 {n d : Int} (hn : I4 n) (hd : I4 d) (d0 : 0 < d) : EG (Nm CE (Rat.divInt n d)) (tMake CE (spInit CE) [.int 0, .int 0, .int 1] E (tCons (tC (.int n)) (tCons (tC (.int d)) tNil))) σ H := fun H1 s Q k =>
  made_num (t := n) (b := d) (R := fun x H' => Q (.ref x) H') d0 hn hd fun x H2 s2 h => k _ H2 s2 h
/-- tuples of two, of three -/
theorem eg_t2 (ma : Mo A) (mb : Mo B) (ea : EG A ta σ H) (eb : EG B tb σ H) : EG (fun H v => ∃ a x y, v = .ref a ∧ H a = some (.tup [x, y]) ∧ A H x ∧ B H y) (tTup (tCons ta (tCons tb tNil))) σ H := fun H1 s Q k =>
  ea H1 s _ fun v H2 s2 a => eb H2 (s.trans s2) _ fun u H3 s3 b => ⟨by show 2 ≤ sizeLine; decide, fun p hp => k _ _ ((s2.trans s3).trans (same_new hp)) ⟨p, v, u, rfl, upd_same, ma _ _ _ (s3.trans (same_new hp)) a, mb _ _ _ (same_new hp) b⟩⟩
theorem eg_t3 (ma : Mo A) (mb : Mo B) (mc : Mo C) (ea : EG A ta σ H) (eb : EG B tb σ H) (ec : EG C tc σ H) : EG (fun H v => ∃ a x y z, v = .ref a ∧ H a = some (.tup [x, y, z]) ∧ A H x ∧ B H y ∧ C H z) (tTup (tCons ta (tCons tb (tCons tc tNil)))) σ H := fun H1 s Q k =>
  ea H1 s _ fun v H2 s2 a => eb H2 (s.trans s2) _ fun u H3 s3 b => ec H3 ((s.trans s2).trans s3) _ fun w H4 s4 c =>
    ⟨by show 3 ≤ sizeLine; decide, fun p hp => k _ _ (((s2.trans s3).trans s4).trans (same_new hp)) ⟨p, v, u, w, rfl, upd_same, ma _ _ _ ((s3.trans s4).trans (same_new hp)) a, mb _ _ _ (s4.trans (same_new hp)) b, mc _ _ _ (same_new hp) c⟩⟩
/-! ### points, lines, circles in the heap -/
abbrev P2 : Type := Rat × Rat
abbrev L3 : Type := Rat × Rat × Rat
def PtA (CE : Addr) (p : P2) : Ap := fun H v => ∃ a x y, v = .ref a ∧ H a = some (.tup [x, y]) ∧ Num CE H x p.1 ∧ Num CE H y p.2
def LnA (CE : Addr) (l : L3) : Ap := fun H v => ∃ a x y z, v = .ref a ∧ H a = some (.tup [x, y, z]) ∧ Num CE H x l.1 ∧ Num CE H y l.2.1 ∧ Num CE H z l.2.2
def CiA (CE : Addr) (c : P2 × Rat) : Ap := fun H v => ∃ a x y, v = .ref a ∧ H a = some (.tup [x, y]) ∧ PtA CE c.1 H x ∧ Num CE H y c.2
theorem mo_pt {p : P2} : Mo (PtA CE p) := fun _ _ _ s ⟨a, x, y, e1, e2, e3, e4⟩ => ⟨a, x, y, e1, s _ _ e2, e3.ext s, e4.ext s⟩
theorem mo_ln {l : L3} : Mo (LnA CE l) := fun _ _ _ s ⟨a, x, y, z, e1, e2, e3, e4, e5⟩ => ⟨a, x, y, z, e1, s _ _ e2, e3.ext s, e4.ext s, e5.ext s⟩
theorem mo_ci {c : P2 × Rat} : Mo (CiA CE c) := fun _ _ _ s ⟨a, x, y, e1, e2, e3, e4⟩ => ⟨a, x, y, e1, s _ _ e2, mo_pt _ _ _ s e3, e4.ext s⟩
abbrev SmP (n : Nat) (p : P2) : Prop := Sm n p.1 ∧ Sm n p.2
abbrev SmL (n : Nat) (l : L3) : Prop := Sm n l.1 ∧ Sm n l.2.1 ∧ Sm n l.2.2
theorem SmP.mono {n m : Nat} {p : P2} (h : SmP n p) (hm : n ≤ m) : SmP m p := ⟨h.1.mono hm, h.2.mono hm⟩
theorem SmL.mono {n m : Nat} {p : L3} (h : SmL n p) (hm : n ≤ m) : SmL m p := ⟨h.1.mono hm, h.2.1.mono hm, h.2.2.mono hm⟩
theorem eg_x {i : Nat} {v : V} {p : P2} (h : σ[i]? = some (some v)) (hp : PtA CE p H v) : EG (Nm CE p.1) (tOp (rIxT K) (tVar i) (tC (.int 0))) σ H := by
  obtain ⟨a, x, y, rfl, e2, e3, e4⟩ := hp
  exact eg_ixv (k := 0) h e2 rfl mo_num e3
theorem eg_y {i : Nat} {v : V} {p : P2} (h : σ[i]? = some (some v)) (hp : PtA CE p H v) : EG (Nm CE p.2) (tOp (rIxT K) (tVar i) (tC (.int 1))) σ H := by
  obtain ⟨a, x, y, rfl, e2, e3, e4⟩ := hp
  exact eg_ixv (k := 1) h e2 rfl mo_num e4
theorem eg_la {i : Nat} {v : V} {p : L3} (h : σ[i]? = some (some v)) (hp : LnA CE p H v) : EG (Nm CE p.1) (tOp (rIxT K) (tVar i) (tC (.int 0))) σ H := by
  obtain ⟨a, x, y, z, rfl, e2, e3, e4, e5⟩ := hp
  exact eg_ixv (k := 0) h e2 rfl mo_num e3
theorem eg_lb {i : Nat} {v : V} {p : L3} (h : σ[i]? = some (some v)) (hp : LnA CE p H v) : EG (Nm CE p.2.1) (tOp (rIxT K) (tVar i) (tC (.int 1))) σ H := by
  obtain ⟨a, x, y, z, rfl, e2, e3, e4, e5⟩ := hp
  exact eg_ixv (k := 1) h e2 rfl mo_num e4
theorem eg_lc {i : Nat} {v : V} {p : L3} (h : σ[i]? = some (some v)) (hp : LnA CE p H v) : EG (Nm CE p.2.2) (tOp (rIxT K) (tVar i) (tC (.int 2))) σ H := by
  obtain ⟨a, x, y, z, rfl, e2, e3, e4, e5⟩ := hp
  exact eg_ixv (k := 2) h e2 rfl mo_num e5
theorem eg_pt {q r : Rat} (ea : EG (Nm CE q) ta σ H) (eb : EG (Nm CE r) tb σ H) : EG (PtA CE (q, r)) (tTup (tCons ta (tCons tb tNil))) σ H := (eg_t2 mo_num mo_num ea eb).imp fun _ _ ⟨a, x, y, e1, e2, e3, e4⟩ => ⟨a, x, y, e1, e2, e3, e4⟩
theorem eg_ln {q r s : Rat} (ea : EG (Nm CE q) ta σ H) (eb : EG (Nm CE r) tb σ H) (ec : EG (Nm CE s) tc σ H) : EG (LnA CE (q, r, s)) (tTup (tCons ta (tCons tb (tCons tc tNil)))) σ H :=
  (eg_t3 mo_num mo_num mo_num ea eb ec).imp fun _ _ ⟨a, x, y, z, e1, e2, e3, e4, e5⟩ => ⟨a, x, y, z, e1, e2, e3, e4, e5⟩
/-- line[:2] -/
theorem eg_dir {i : Nat} {v : V} {l : L3} (h : σ[i]? = some (some v)) (hp : LnA CE l H v) : EG (PtA CE (l.1, l.2.1)) (tSl (rSlT K) (tVar i) tNoPart (tPart (tC (.int 2)))) σ H := fun H1 s Q k => by
  obtain ⟨a, x, y, z, rfl, e2, e3, e4, e5⟩ := hp
  refine ⟨_, h, _, rfl, a, _, rfl, SqT.of (s _ _ e2), (by show ¬ (HT.sIx 3 0 none = 0 ∧ HT.sIx 3 3 (some 2) = 3); decide), fun p hp => k _ _ (same_new hp) ⟨p, x, y, rfl, upd_same, e3.ext (s.trans (same_new hp)), e4.ext (s.trans (same_new hp))⟩⟩
end
end Ph
set_option linter.all false
set_option maxRecDepth 100000
set_option maxHeartbeats 40000000
set_option exponentiation.threshold 500
namespace Ph
open PySem PySem.Spec PyProof.Rows L2
/-! ### the plane, as plain functions -/
def wayB (p q : P2) : P2 := (q.1 - p.1, q.2 - p.2)
def dotP (p q : P2) : Rat := p.1 * q.1 + p.2 * q.2
def crsP (p q : P2) : Rat := p.1 * q.2 - p.2 * q.1
def leftP (p : P2) : P2 := (0 - p.2, p.1)
def goneP (p w : P2) (t : Rat) : P2 := (p.1 + w.1 * t, p.2 + w.2 * t)
def dirL (l : L3) : P2 := (l.1, l.2.1)
def farL (p : P2) (l : L3) : Rat := (l.2.2 - dotP p (dirL l)) / dotP (dirL l) (dirL l)
theorem SmP.way {n m : Nat} {p q : P2} (hp : SmP n p) (hq : SmP m q) : SmP (m + n + 1) (wayB p q) := ⟨hq.1.sub hp.1, hq.2.sub hp.2⟩
theorem SmP.dot {n m : Nat} {p q : P2} (hp : SmP n p) (hq : SmP m q) : Sm (n + m + (n + m) + 1) (dotP p q) := (hp.1.mul hq.1).add (hp.2.mul hq.2)
theorem SmP.crs {n m : Nat} {p q : P2} (hp : SmP n p) (hq : SmP m q) : Sm (n + m + (n + m) + 1) (crsP p q) := (hp.1.mul hq.2).sub (hp.2.mul hq.1)
theorem SmP.left {n : Nat} {p : P2} (hp : SmP n p) : SmP (n + 2) (leftP p) := ⟨((sm_zero (n := 0)).sub hp.2).mono (by omega), hp.1.mono (by omega)⟩
theorem SmP.gone {n m l : Nat} {p w : P2} {t : Rat} (hp : SmP n p) (hw : SmP m w) (ht : Sm l t) : SmP (n + (m + l) + 1) (goneP p w t) := ⟨hp.1.add (hw.1.mul ht), hp.2.add (hw.2.mul ht)⟩
theorem SmL.dir {n : Nat} {l : L3} (h : SmL n l) : SmP n (dirL l) := ⟨h.1, h.2.1⟩
theorem SmP.far {n m : Nat} {p : P2} {l : L3} (hp : SmP n p) (hl : SmL m l) : Sm (2 * n + 7 * m + 3) (farL p l) := ((hl.2.2.sub (hp.dot hl.dir)).div (hl.dir.dot hl.dir)).mono (by omega)
section
variable {P : Program} {w : World} {K : PySem.W.Frag} {mg : Str → Option Value} {base : Heap} {CE : Addr}
/-- the methods of Exact -/
structure Mts (P : Program) (w : World) (K : PySem.W.Frag) (mg : Str → Option Value) (base : Heap) (CE : Addr) : Prop where
  T : Tx K mg CE
  M : Mks P w K mg base CE
  plus : CalM P w K mg base CX0 39 CE "plus" ["self", "other"] (spBin CE CAdd (· + ·))
  minus : CalM P w K mg base CX0 40 CE "minus" ["self", "other"] (spBin CE CAdd (· - ·))
  times : CalM P w K mg base CX0 39 CE "times" ["self", "other"] (spBin CE CAdd (· * ·))
  by_ : CalM P w K mg base CX0 40 CE "by" ["self", "other"] (spBy CE)
  sign : CalM P w K mg base CX0 2 CE "sign_of" ["self"] (spSign CE)
abbrev s_against : Stmt := top 26
theorem sc_against : FnScope ["number"] ["number"] (defScope s_against) := ⟨rfl, rfl, rfl, by decide +kernel, rfl, by decide +kernel, by decide +kernel⟩
def spAgainst (CE : Addr) : Sp := fun vs H Q _ => ∃ (v : V) (q : Rat) (n : Nat), vs = [v] ∧ Num CE H v q ∧ Sm n q ∧ n + 2 ≤ 4000000 ∧ ∀ x H', Same H H' → Num CE H' x (0 - q) → Q x H'
theorem ok_against (X : Mts P w K mg base CE) (F : FnAt K mg "against" s_against) : Cal P w K mg base CX0 41 "against" ["number"] (spAgainst CE) := by
  refine Cal.of0 F sc_against (fun _ _ _ _ _ _ us hl => match us, hl with | [_], _ => rfl) (fun vs H Q E h => ?_) (fun f cdv A outer s H vs Q E hr h => ?_)
  · obtain ⟨v, q, n, rfl, _⟩ := h
    rfl
  · obtain ⟨v, q, n, rfl, hq, zq, hc, k⟩ := h
    have m_minus := X.minus
    have T := X.T
    have M := X.M
    exact ⟨_, (pss_one (ps_ret (pe_mt m_minus T.cl (hr.mono (by omega)) (pe_e1 M T (hr.mono (by omega)) (pa_cons pe_int pa_nil)) (pa_cons (pv 0) pa_nil)))), (eg_minus (eg_e1 i4_0) (eg_var rfl mo_num hq) (sm_zero (n := 0)) zq (by show 0 + 1 + n + 1 ≤ 4000000; omega)).run k⟩
theorem eg_against {σ : L2.St} {H : Hp} {ta : TE} {q : Rat} {n : Nat} {E : XK} (ea : EG (Nm CE q) ta σ H) (zq : Sm n q) (hc : n + 2 ≤ 4000000) : EG (Nm CE (0 - q)) (tCall (spAgainst CE) [] E (tCons ta tNil)) σ H :=
  eg_f1 (A := Nm CE q) (fun v H1 Q a k => ⟨v, q, n, rfl, a, zq, hc, k⟩) ea
abbrev s_way_between : Stmt := top 27
theorem sc_way_between : FnScope ["p", "q"] ["p", "q"] (defScope s_way_between) := ⟨rfl, rfl, rfl, by decide +kernel, rfl, by decide +kernel, by decide +kernel⟩
def spWay (CE : Addr) : Sp := fun vs H Q _ => ∃ (v u : V) (p q : P2) (n m : Nat), vs = [v, u] ∧ PtA CE p H v ∧ PtA CE q H u ∧ SmP n p ∧ SmP m q ∧ n + m + 1 ≤ 4000000 ∧ ∀ x H', Same H H' → PtA CE (wayB p q) H' x → Q x H'
theorem ok_way_between (X : Mts P w K mg base CE) (F : FnAt K mg "way_between" s_way_between) : Cal P w K mg base CX0 41 "way_between" ["p", "q"] (spWay CE) := by
  refine Cal.of0 F sc_way_between (fun _ _ _ _ _ _ us hl => match us, hl with | [_, _], _ => rfl) (fun vs H Q E h => ?_) (fun f cdv A outer s H vs Q E hr h => ?_)
  · obtain ⟨v, u, p, q, n, m, rfl, _⟩ := h
    rfl
  · obtain ⟨v, u, p, q, n, m, rfl, hp, hq, zp, zq, hc, k⟩ := h
    have m_minus := X.minus
    have T := X.T
    exact ⟨_, (pss_one (ps_ret (pe_tup (pa_cons (pe_mt m_minus T.cl (hr.mono (by omega)) (pe_ix ix_tup (pv 1) pe_int (fun _ _ => rfl)) (pa_cons (pe_ix ix_tup (pv 0) pe_int (fun _ _ => rfl)) pa_nil)) (pa_cons (pe_mt m_minus T.cl (hr.mono (by omega)) (pe_ix ix_tup (pv 1) pe_int (fun _ _ => rfl)) (pa_cons (pe_ix ix_tup (pv 0) pe_int (fun _ _ => rfl)) pa_nil)) pa_nil))))), (eg_pt (eg_minus (eg_x rfl hq) (eg_x rfl hp) zq.1 zp.1 (by show m + n + 1 ≤ 4000000; omega)) (eg_minus (eg_y rfl hq) (eg_y rfl hp) zq.2 zp.2 (by show m + n + 1 ≤ 4000000; omega))).run k⟩
theorem eg_way {σ : L2.St} {H : Hp} {ta tb : TE} {p q : P2} {n m : Nat} {E : XK} (ea : EG (PtA CE p) ta σ H) (eb : EG (PtA CE q) tb σ H) (zp : SmP n p) (zq : SmP m q) (hc : n + m + 1 ≤ 4000000) : EG (PtA CE (wayB p q)) (tCall (spWay CE) [] E (tCons ta (tCons tb tNil))) σ H :=
  eg_f2 (A := PtA CE p) (B := PtA CE q) (fun v u H1 Q a b k => ⟨v, u, p, q, n, m, rfl, a, b, zp, zq, hc, k⟩) mo_pt ea eb
def spDot (CE : Addr) (g : P2 → P2 → Rat) : Sp := fun vs H Q _ => ∃ (v u : V) (p q : P2) (n m : Nat), vs = [v, u] ∧ PtA CE p H v ∧ PtA CE q H u ∧ SmP n p ∧ SmP m q ∧ n + m + (n + m) + 1 ≤ 4000000 ∧ ∀ x H', Same H H' → Num CE H' x (g p q) → Q x H'
theorem eg_dot {g : P2 → P2 → Rat} {σ : L2.St} {H : Hp} {ta tb : TE} {p q : P2} {n m : Nat} {E : XK} (ea : EG (PtA CE p) ta σ H) (eb : EG (PtA CE q) tb σ H) (zp : SmP n p) (zq : SmP m q) (hc : n + m + (n + m) + 1 ≤ 4000000) : EG (Nm CE (g p q)) (tCall (spDot CE g) [] E (tCons ta (tCons tb tNil))) σ H :=
  eg_f2 (A := PtA CE p) (B := PtA CE q) (fun v u H1 Q a b k => ⟨v, u, p, q, n, m, rfl, a, b, zp, zq, hc, k⟩) mo_pt ea eb
abbrev s_dot : Stmt := top 28
theorem sc_dot : FnScope ["one", "other"] ["one", "other"] (defScope s_dot) := ⟨rfl, rfl, rfl, by decide +kernel, rfl, by decide +kernel, by decide +kernel⟩
theorem ok_dot (X : Mts P w K mg base CE) (F : FnAt K mg "dot" s_dot) : Cal P w K mg base CX0 40 "dot" ["one", "other"] (spDot CE dotP) := by
  refine Cal.of0 F sc_dot (fun _ _ _ _ _ _ us hl => match us, hl with | [_, _], _ => rfl) (fun vs H Q E h => ?_) (fun f cdv A outer s H vs Q E hr h => ?_)
  · obtain ⟨v, u, p, q, n, m, rfl, _⟩ := h
    rfl
  · obtain ⟨v, u, p, q, n, m, rfl, hp, hq, zp, zq, hc, k⟩ := h
    have m_plus := X.plus
    have m_times := X.times
    have T := X.T
    have c1 : CAdd n m := by show n + m + 1 ≤ 4000000; omega
    exact ⟨_, (pss_one (ps_ret (pe_mt m_plus T.cl (hr.mono (by omega)) (pe_mt m_times T.cl (hr.mono (by omega)) (pe_ix ix_tup (pv 0) pe_int (fun _ _ => rfl)) (pa_cons (pe_ix ix_tup (pv 1) pe_int (fun _ _ => rfl)) pa_nil)) (pa_cons (pe_mt m_times T.cl (hr.mono (by omega)) (pe_ix ix_tup (pv 0) pe_int (fun _ _ => rfl)) (pa_cons (pe_ix ix_tup (pv 1) pe_int (fun _ _ => rfl)) pa_nil)) pa_nil)))), (eg_plus (eg_times (eg_x rfl hp) (eg_x rfl hq) zp.1 zq.1 c1) (eg_times (eg_y rfl hp) (eg_y rfl hq) zp.2 zq.2 c1) (zp.1.mul zq.1) (zp.2.mul zq.2) hc).run k⟩
abbrev s_cross : Stmt := top 29
theorem sc_cross : FnScope ["one", "other"] ["one", "other"] (defScope s_cross) := ⟨rfl, rfl, rfl, by decide +kernel, rfl, by decide +kernel, by decide +kernel⟩
theorem ok_cross (X : Mts P w K mg base CE) (F : FnAt K mg "cross" s_cross) : Cal P w K mg base CX0 41 "cross" ["one", "other"] (spDot CE crsP) := by
  refine Cal.of0 F sc_cross (fun _ _ _ _ _ _ us hl => match us, hl with | [_, _], _ => rfl) (fun vs H Q E h => ?_) (fun f cdv A outer s H vs Q E hr h => ?_)
  · obtain ⟨v, u, p, q, n, m, rfl, _⟩ := h
    rfl
  · obtain ⟨v, u, p, q, n, m, rfl, hp, hq, zp, zq, hc, k⟩ := h
    have m_minus := X.minus
    have m_times := X.times
    have T := X.T
    have c1 : CAdd n m := by show n + m + 1 ≤ 4000000; omega
    exact ⟨_, (pss_one (ps_ret (pe_mt m_minus T.cl (hr.mono (by omega)) (pe_mt m_times T.cl (hr.mono (by omega)) (pe_ix ix_tup (pv 0) pe_int (fun _ _ => rfl)) (pa_cons (pe_ix ix_tup (pv 1) pe_int (fun _ _ => rfl)) pa_nil)) (pa_cons (pe_mt m_times T.cl (hr.mono (by omega)) (pe_ix ix_tup (pv 0) pe_int (fun _ _ => rfl)) (pa_cons (pe_ix ix_tup (pv 1) pe_int (fun _ _ => rfl)) pa_nil)) pa_nil)))), (eg_minus (eg_times (eg_x rfl hp) (eg_y rfl hq) zp.1 zq.2 c1) (eg_times (eg_y rfl hp) (eg_x rfl hq) zp.2 zq.1 c1) (zp.1.mul zq.2) (zp.2.mul zq.1) hc).run k⟩
abbrev s_leftwards : Stmt := top 30
theorem sc_leftwards : FnScope ["way"] ["way"] (defScope s_leftwards) := ⟨rfl, rfl, rfl, by decide +kernel, rfl, by decide +kernel, by decide +kernel⟩
def spLeft (CE : Addr) : Sp := fun vs H Q _ => ∃ (v : V) (p : P2) (n : Nat), vs = [v] ∧ PtA CE p H v ∧ SmP n p ∧ n + 2 ≤ 4000000 ∧ ∀ x H', Same H H' → PtA CE (leftP p) H' x → Q x H'
theorem ok_leftwards (c_against : Cal P w K mg base CX0 41 "against" ["number"] (spAgainst CE)) (F : FnAt K mg "leftwards" s_leftwards) : Cal P w K mg base CX0 42 "leftwards" ["way"] (spLeft CE) := by
  refine Cal.of0 F sc_leftwards (fun _ _ _ _ _ _ us hl => match us, hl with | [_], _ => rfl) (fun vs H Q E h => ?_) (fun f cdv A outer s H vs Q E hr h => ?_)
  · obtain ⟨v, p, n, rfl, _⟩ := h
    rfl
  · obtain ⟨v, p, n, rfl, hp, zp, hc, k⟩ := h
    exact ⟨_, (pss_one (ps_ret (pe_tup (pa_cons (pe_c c_against (hr.mono (by omega)) (pa_cons (pe_ix ix_tup (pv 0) pe_int (fun _ _ => rfl)) pa_nil)) (pa_cons (pe_ix ix_tup (pv 0) pe_int (fun _ _ => rfl)) pa_nil))))), (eg_pt (eg_against (eg_y rfl hp) zp.2 hc) (eg_x rfl hp)).run k⟩
theorem eg_left {σ : L2.St} {H : Hp} {ta : TE} {p : P2} {n : Nat} {E : XK} (ea : EG (PtA CE p) ta σ H) (zp : SmP n p) (hc : n + 2 ≤ 4000000) : EG (PtA CE (leftP p)) (tCall (spLeft CE) [] E (tCons ta tNil)) σ H :=
  eg_f1 (A := PtA CE p) (fun v H1 Q a k => ⟨v, p, n, rfl, a, zp, hc, k⟩) ea
abbrev s_gone : Stmt := top 31
theorem sc_gone : FnScope ["p", "way", "often"] ["p", "way", "often"] (defScope s_gone) := ⟨rfl, rfl, rfl, by decide +kernel, rfl, by decide +kernel, by decide +kernel⟩
def spGone (CE : Addr) : Sp := fun vs H Q _ => ∃ (v u y : V) (p q : P2) (t : Rat) (n m l : Nat), vs = [v, u, y] ∧ PtA CE p H v ∧ PtA CE q H u ∧ Num CE H y t ∧ SmP n p ∧ SmP m q ∧ Sm l t ∧ n + m + l + 1 ≤ 4000000 ∧ ∀ x H', Same H H' → PtA CE (goneP p q t) H' x → Q x H'
theorem ok_gone (X : Mts P w K mg base CE) (F : FnAt K mg "gone" s_gone) : Cal P w K mg base CX0 40 "gone" ["p", "way", "often"] (spGone CE) := by
  refine Cal.of0 F sc_gone (fun _ _ _ _ _ _ us hl => match us, hl with | [_, _, _], _ => rfl) (fun vs H Q E h => ?_) (fun f cdv A outer s H vs Q E hr h => ?_)
  · obtain ⟨v, u, y, p, q, t, n, m, l, rfl, _⟩ := h
    rfl
  · obtain ⟨v, u, y, p, q, t, n, m, l, rfl, hp, hq, ht, zp, zq, zt, hc, k⟩ := h
    have m_plus := X.plus
    have m_times := X.times
    have T := X.T
    have n0 := zp.1.pos
    have c1 : CAdd m l := by show m + l + 1 ≤ 4000000; omega
    have c2 : CAdd n (m + l) := by show n + (m + l) + 1 ≤ 4000000; omega
    exact ⟨_, (pss_one (ps_ret (pe_tup (pa_cons (pe_mt m_plus T.cl (hr.mono (by omega)) (pe_ix ix_tup (pv 0) pe_int (fun _ _ => rfl)) (pa_cons (pe_mt m_times T.cl (hr.mono (by omega)) (pe_ix ix_tup (pv 1) pe_int (fun _ _ => rfl)) (pa_cons (pv 2) pa_nil)) pa_nil)) (pa_cons (pe_mt m_plus T.cl (hr.mono (by omega)) (pe_ix ix_tup (pv 0) pe_int (fun _ _ => rfl)) (pa_cons (pe_mt m_times T.cl (hr.mono (by omega)) (pe_ix ix_tup (pv 1) pe_int (fun _ _ => rfl)) (pa_cons (pv 2) pa_nil)) pa_nil)) pa_nil))))), (eg_pt (eg_plus (eg_x rfl hp) (eg_times (eg_x rfl hq) (eg_var rfl mo_num ht) zq.1 zt c1) zp.1 (zq.1.mul zt) c2) (eg_plus (eg_y rfl hp) (eg_times (eg_y rfl hq) (eg_var rfl mo_num ht) zq.2 zt c1) zp.2 (zq.2.mul zt) c2)).run k⟩
theorem eg_gone {σ : L2.St} {H : Hp} {ta tb tc : TE} {p q : P2} {t : Rat} {n m l : Nat} {E : XK} (ea : EG (PtA CE p) ta σ H) (eb : EG (PtA CE q) tb σ H) (ec : EG (Nm CE t) tc σ H) (zp : SmP n p) (zq : SmP m q) (zt : Sm l t) (hc : n + m + l + 1 ≤ 4000000) :
    EG (PtA CE (goneP p q t)) (tCall (spGone CE) [] E (tCons ta (tCons tb (tCons tc tNil)))) σ H :=
  eg_f3 (A := PtA CE p) (B := PtA CE q) (C := Nm CE t) (fun v u y H1 Q a b c k => ⟨v, u, y, p, q, t, n, m, l, rfl, a, b, c, zp, zq, zt, hc, k⟩) mo_pt mo_pt ea eb ec
abbrev s_far_from : Stmt := top 39
theorem sc_far_from : FnScope ["p", "line"] ["p", "line"] (defScope s_far_from) := ⟨rfl, rfl, rfl, by decide +kernel, rfl, by decide +kernel, by decide +kernel⟩
def lineOk (l : L3) : Prop := dotP (dirL l) (dirL l) ≠ 0
def spFar (CE : Addr) : Sp := fun vs H Q _ => ∃ (v u : V) (p : P2) (l : L3) (n m : Nat), vs = [v, u] ∧ PtA CE p H v ∧ LnA CE l H u ∧ SmP n p ∧ SmL m l ∧ 2 * n + 15 * m + 9 ≤ 4000000 ∧ lineOk l ∧ ∀ x H', Same H H' → Num CE H' x (farL p l) → Q x H'
theorem ok_far_from (X : Mts P w K mg base CE) (c_dot : Cal P w K mg base CX0 40 "dot" ["one", "other"] (spDot CE dotP)) (F : FnAt K mg "far_from" s_far_from) : Cal P w K mg base CX0 41 "far_from" ["p", "line"] (spFar CE) := by
  refine Cal.of0 F sc_far_from (fun _ _ _ _ _ _ us hl => match us, hl with | [_, _], _ => rfl) (fun vs H Q E h => ?_) (fun f cdv A outer s H vs Q E hr h => ?_)
  · obtain ⟨v, u, p, l, n, m, rfl, _⟩ := h
    rfl
  · obtain ⟨v, u, p, l, n, m, rfl, hp, hl, zp, zl, hc, ok, k⟩ := h
    have m_minus := X.minus
    have m_by := X.by_
    have T := X.T
    have zd := zp.dot zl.dir
    have ze := zl.dir.dot zl.dir
    exact ⟨_, (pss_one (ps_ret (pe_mt m_by T.cl (hr.mono (by omega)) (pe_mt m_minus T.cl (hr.mono (by omega)) (pe_ix ix_tup (pv 1) pe_int (fun _ _ => rfl)) (pa_cons (pe_c c_dot (hr.mono (by omega)) (pa_cons (pv 0) (pa_cons (pe_slice sl_tup (pv 1) po_none (po_some pe_int)) pa_nil))) pa_nil)) (pa_cons (pe_c c_dot (hr.mono (by omega)) (pa_cons (pe_slice sl_tup (pv 1) po_none (po_some pe_int)) (pa_cons (pe_slice sl_tup (pv 1) po_none (po_some pe_int)) pa_nil))) pa_nil)))), (eg_by (eg_minus (eg_lc rfl hl) (eg_dot (eg_var rfl mo_pt hp) (eg_dir rfl hl) zp zl.dir (by omega)) zl.2.2 zd (by show m + (n + m + (n + m) + 1) + 1 ≤ 4000000; omega))
      (eg_dot (eg_dir rfl hl) (eg_dir rfl hl) zl.dir zl.dir (by omega)) (zl.2.2.sub zd) ze (by show m + (n + m + (n + m) + 1) + 1 + 3 * (m + m + (m + m) + 1) + 1 ≤ 4000000; omega) ok).run k⟩
theorem eg_far {σ : L2.St} {H : Hp} {ta tb : TE} {p : P2} {l : L3} {n m : Nat} {E : XK} (ea : EG (PtA CE p) ta σ H) (eb : EG (LnA CE l) tb σ H) (zp : SmP n p) (zl : SmL m l) (hc : 2 * n + 15 * m + 9 ≤ 4000000) (ok : lineOk l) : EG (Nm CE (farL p l)) (tCall (spFar CE) [] E (tCons ta (tCons tb tNil))) σ H :=
  eg_f2 (A := PtA CE p) (B := LnA CE l) (fun v u H1 Q a b k => ⟨v, u, p, l, n, m, rfl, a, b, zp, zl, hc, ok, k⟩) mo_pt ea eb
end
end Ph
set_option linter.all false
set_option maxRecDepth 100000
set_option maxHeartbeats 40000000
set_option exponentiation.threshold 500
namespace Ph
open PySem PySem.Spec PyProof.Rows L2
/-! ### NoLine -/
abbrev bmV : List Value := [.type "ValueError", .type "Exception", .type "BaseException", .type "object"]
structure Nx (K : PySem.W.Frag) (mg : Str → Option Value) (CN : Addr) : Prop where
  mgN : mg "NoLine" = some (.ref CN)
  ex : PySem.W.excIn K CN bmV "ValueError.__new__" = true
  kp : PySem.W.keepIn K (.ref CN) = true
  sub : PySem.W.subIn K (.ref CN) (.type "BaseException") = some true
  ty : PySem.W.typeIn K (.ref CN) = some (.type "type")
section
variable {P : Program} {w : World} {K : PySem.W.Frag} {mg : Str → Option Value} {base : Heap}
/-- a def of which, by its promise, nothing is let out -/
theorem Cal.calm {k : Nat} {x : Str} {ps : List Str} {sp : Sp} (c : Cal P w K mg base (L2.CX P w) k x ps sp) : Cal P w K mg base CX0 k x ps (fun vs H Q _ => sp vs H Q E0) := by
  obtain ⟨f, fd, F, b⟩ := c.ex
  refine ⟨f, fd, ⟨fun vs H Q E h => F.len vs H Q E0 h, fun A outer s H args us vs Q E hr he hb hv hs => codeAny_mono (F.run A outer s H args us vs Q E0 hr he hb hv hs) fun r s' h => ?_⟩, b⟩
  cases r with
  | error e =>
    obtain ⟨_, _, _, _, _, _, _, _, _, _, _, _, z⟩ := h
    exact z.elim
  | ok fl => cases fl <;> exact h
end
section
variable {X : Cx} {k : Nat} {x : Str} {ps : List Str} {sp : Sp} {p pos : Pos} {e : Expr} {es : List Expr} {t : TA} {E : XK}
/-- a call of a def that may raise -/
theorem pe_cx (c : Cal X.prog X.w X.K X.mg X.base (L2.CX X.prog X.w) k x ps sp) (hr : Room k X.A) (hx : Passes (L2.CX X.prog X.w) X E) (ha : PA X (e :: es) t) (hg : Gl X x := by rfl) (hdb : (x == ("__debug__" : Str)) = false := by decide)
    (he : starEach (e :: es) X.env = (false, eval e X.env) :: starEach es X.env := by rfl) (hpl : (backTo pos (starEach es X.env)).any (·.1) = false := by rfl) : PE X (.Call (.Name x p) (e :: es) [] pos) (tCall sp [] E t) := by
  obtain ⟨f, fd, a, b, d, g⟩ := c.ex
  exact pe_call a hr hg b d g .nil hx ha hdb he hpl
end
/-! ### lines -/
def scaleL (a b c : Rat) : L3 := if a ≠ 0 then (a / a, b / a, c / a) else (a / b, b / b, c / b)
def lineBy (p w : P2) : L3 := scaleL w.1 w.2 (dotP p w)
section
variable {P : Program} {w : World} {K : PySem.W.Frag} {mg : Str → Option Value} {base : Heap} {CE CN : Addr}
theorem sgn_ne {q : Rat} (h : q ≠ 0) : sgn q.num ≠ 0 := fun z => h (sgn_zero.mp z)
abbrev s_scaled_line : Stmt := top 32
theorem sc_scaled_line : FnScope ["a", "b", "c", "head"] ["a", "b", "c"] (defScope s_scaled_line) := ⟨rfl, rfl, rfl, by decide +kernel, rfl, by decide +kernel, by decide +kernel⟩
def spScaled (CE CN : Addr) : Sp := fun vs H Q E => ∃ (v1 v2 v3 : V) (a b c : Rat) (n m : Nat), vs = [v1, v2, v3] ∧ Num CE H v1 a ∧ Num CE H v2 b ∧ Num CE H v3 c ∧ Sm n a ∧ Sm n b ∧ Sm m c ∧ 4 * n + m + 1 ≤ 4000000 ∧ 4 * n + 1 ≤ 4000000 ∧
  ((a ≠ 0 ∨ b ≠ 0) → ∀ x H', Same H H' → LnA CE (scaleL a b c) H' x → Q x H') ∧ (a = 0 → b = 0 → ∀ H', Same H H' → E (.ref CN) none H')
theorem ok_scaled_line (X : Mts P w K mg base CE) (Y : Nx K mg CN) (F : FnAt K mg "scaled_line" s_scaled_line) : Cal P w K mg base (L2.CX P w) 41 "scaled_line" ["a", "b", "c"] (spScaled CE CN) := by
  refine Cal.of F sc_scaled_line (fun _ _ _ _ _ _ us hl => match us, hl with | [_, _, _], _ => rfl) (fun vs H Q E h => ?_) (fun f cdv A outer s H vs Q E hr h => ?_)
  · obtain ⟨v1, v2, v3, a, b, c, n, m, rfl, _⟩ := h
    rfl
  · obtain ⟨v1, v2, v3, a, b, c, n, m, rfl, ha, hb, hc, za, zb, zc, k1, k2, kq, ke⟩ := h
    have m_sign_of := X.sign
    have m_by := X.by_
    have T := X.T
    refine ⟨_, (pss_cons (ps_set (i := 3) sc_scaled_line.nd rfl (by first | exact Or.inl rfl | exact Or.inr rfl) (pe_ifExp (pt_cmpR op_ne (pe_mt0 m_sign_of T.cl (hr.mono (by omega)) (pv 0)) pe_int (by first | exact nomark _ | rfl)) (pv 0) (pv 1)))
      (pss_cons (ps_if (pt_cmpR op_eq (pe_mt0 m_sign_of T.cl (hr.mono (by omega)) (pv 3)) pe_int (by first | exact nomark _ | rfl)) (pss_one (ps_raise rfl (takes_of rfl rfl rfl rfl) (pmk_own PySem.F.excBase_ValueError Y.ex Y.mgN Y.kp (raises_own Y.sub Y.ty) rfl))) pss_nil)
      (pss_one (ps_ret (pe_tup (pa_cons (pe_mt m_by T.cl (hr.mono (by omega)) (pv 0) (pa_cons (pv 3) pa_nil)) (pa_cons (pe_mt m_by T.cl (hr.mono (by omega)) (pv 1) (pa_cons (pv 3) pa_nil)) (pa_cons (pe_mt m_by T.cl (hr.mono (by omega)) (pv 2) (pa_cons (pv 3) pa_nil)) pa_nil)))))))), ?_⟩
    refine (eg_sign (eg_var rfl mo_num ha)).run fun v H1 s1 e1 => ?_
    obtain rfl : v = .int (sgn a.num) := e1
    refine ⟨rfl, _, rfl, ?_⟩
    by_cases a0 : a = 0
    · refine no (by simp [a0, sgn]) ?_
      refine ⟨_, rfl, ?_⟩
      refine (eg_sign (eg_var rfl mo_num (hb.ext s1))).run fun v H2 s2 e2 => ?_
      obtain rfl : v = .int (sgn b.num) := e2
      refine ⟨rfl, _, rfl, ?_⟩
      by_cases b0 : b = 0
      · refine yes (by simp [b0, sgn]) ?_
        exact ke a0 b0 H2 (s1.trans s2)
      · refine no (by simpa using sgn_ne b0) ?_
        have s12 := s1.trans s2
        refine (eg_ln (eg_by (eg_var rfl mo_num (ha.ext s12)) (eg_var rfl mo_num (hb.ext s12)) za zb (by show n + 3 * n + 1 ≤ 4000000; omega) b0) (eg_by (eg_var rfl mo_num (hb.ext s12)) (eg_var rfl mo_num (hb.ext s12)) zb zb (by show n + 3 * n + 1 ≤ 4000000; omega) b0)
          (eg_by (eg_var rfl mo_num (hc.ext s12)) (eg_var rfl mo_num (hb.ext s12)) zc zb (by show m + 3 * n + 1 ≤ 4000000; omega) b0)).run fun x H3 s3 h3 => ?_
        refine kq (.inr b0) x H3 (s12.trans s3) ?_
        unfold scaleL
        rw [if_neg (fun z => z a0)]
        exact h3
    · refine yes (by simpa using sgn_ne a0) ?_
      refine ⟨_, rfl, ?_⟩
      refine (eg_sign (eg_var rfl mo_num (ha.ext s1))).run fun v H2 s2 e2 => ?_
      obtain rfl : v = .int (sgn a.num) := e2
      refine ⟨rfl, _, rfl, ?_⟩
      refine no (by simpa using sgn_ne a0) ?_
      have s12 := s1.trans s2
      refine (eg_ln (eg_by (eg_var rfl mo_num (ha.ext s12)) (eg_var rfl mo_num (ha.ext s12)) za za (by show n + 3 * n + 1 ≤ 4000000; omega) a0) (eg_by (eg_var rfl mo_num (hb.ext s12)) (eg_var rfl mo_num (ha.ext s12)) zb za (by show n + 3 * n + 1 ≤ 4000000; omega) a0)
        (eg_by (eg_var rfl mo_num (hc.ext s12)) (eg_var rfl mo_num (ha.ext s12)) zc za (by show m + 3 * n + 1 ≤ 4000000; omega) a0)).run fun x H3 s3 h3 => ?_
      refine kq (.inl a0) x H3 (s12.trans s3) ?_
      unfold scaleL
      rw [if_pos a0]
      exact h3
abbrev s_line_by : Stmt := top 33
theorem sc_line_by : FnScope ["p", "upright_way"] ["p", "upright_way"] (defScope s_line_by) := ⟨rfl, rfl, rfl, by decide +kernel, rfl, by decide +kernel, by decide +kernel⟩
def spLineBy (CE CN : Addr) : Sp := fun vs H Q E => ∃ (v u : V) (p q : P2) (n m : Nat), vs = [v, u] ∧ PtA CE p H v ∧ PtA CE q H u ∧ SmP n p ∧ SmP m q ∧ 2 * n + 6 * m + 3 ≤ 4000000 ∧
  ((q.1 ≠ 0 ∨ q.2 ≠ 0) → ∀ x H', Same H H' → LnA CE (lineBy p q) H' x → Q x H') ∧ (q.1 = 0 → q.2 = 0 → ∀ H', Same H H' → E (.ref CN) none H')
theorem ok_line_by (c_dot : Cal P w K mg base CX0 40 "dot" ["one", "other"] (spDot CE dotP)) (c_scaled_line : Cal P w K mg base (L2.CX P w) 41 "scaled_line" ["a", "b", "c"] (spScaled CE CN)) (F : FnAt K mg "line_by" s_line_by) :
    Cal P w K mg base (L2.CX P w) 42 "line_by" ["p", "upright_way"] (spLineBy CE CN) := by
  refine Cal.of F sc_line_by (fun _ _ _ _ _ _ us hl => match us, hl with | [_, _], _ => rfl) (fun vs H Q E h => ?_) (fun f cdv A outer s H vs Q E hr h => ?_)
  · obtain ⟨v, u, p, q, n, m, rfl, _⟩ := h
    rfl
  · obtain ⟨v, u, p, q, n, m, rfl, hp, hq, zp, zq, hc, kq, ke⟩ := h
    refine ⟨_, pss_one (ps_ret (pe_cx (E := E) c_scaled_line (hr.mono (by decide)) (passes_call (takes_of rfl rfl rfl rfl) fun _ _ _ _ z => z) (pa_cons (pe_ix ix_tup (pv 1) pe_int (fun _ _ => rfl)) (pa_cons (pe_ix ix_tup (pv 1) pe_int (fun _ _ => rfl)) (pa_cons (pe_c c_dot (hr.mono (by decide)) (pa_cons (pv 0) (pa_cons (pv 1) pa_nil))) pa_nil))))), ?_⟩
    refine (eg_x rfl hq).run fun v1 H1 s1 h1 => (eg_y rfl (mo_pt _ _ _ s1 hq)).run fun v2 H2 s2 h2 => ?_
    refine (eg_dot (eg_var rfl mo_pt (mo_pt _ _ _ (s1.trans s2) hp)) (eg_var rfl mo_pt (mo_pt _ _ _ (s1.trans s2) hq)) zp zq (by omega)).run fun v3 H3 s3 h3 => ?_
    have s13 := (s1.trans s2).trans s3
    refine ⟨v1, v2, v3, q.1, q.2, dotP p q, m, _, rfl, h1.ext (s2.trans s3), h2.ext s3, h3, zq.1, zq.2, zp.dot zq, by omega, by omega, fun hz x H4 s4 h4 => kq hz x H4 (s13.trans s4) h4, fun z1 z2 H4 s4 => ke z1 z2 H4 (s13.trans s4)⟩
end
end Ph
set_option linter.all false
set_option maxRecDepth 100000
set_option maxHeartbeats 40000000
set_option exponentiation.threshold 500
namespace Ph
open PySem PySem.Spec PySem.Calls PyProof.Rows L2
/-! ### a, b, *rest = a list or a tuple (the star at the end) -/
section
variable {prog : Program} {w : World} {A : Around} {E : Value → Shared → Prop} {s : Shared}
theorem lastL {l i : Nat} {its : Array Value} {Q : List Value → Shared → Prop} (hl : s.heap.IsList l its) (hh : A.handled = none) (hi : i ≤ its.size) (hz : its.size ≤ 16384)
    (q : ∀ (h2 : Heap) (tk : Nat), (∀ b o, s.heap.get? b = some o → h2.get? b = some o) → Q (its.toList.take i ++ [.ref h2.objs.size]) { s with heap := h2.push { cls := .type "list", data := .seq (its.toList.drop i).toArray }, toks := tk }) :
    wpAny (model prog w) A (unpackItems (.ref l) (i + 1) (some i)) Q E s := by
  have ne : l ≠ s.heap.objs.size := let ⟨o, ho, _⟩ := hl; Nat.ne_of_lt (Heap.lt_size ho)
  unfold unpackItems notIterableAtAll
  refine wpAny_bind (wpAny_bind (wpAny_specialOf hl.typeIs slot_list_iter.lookup (wpAny_pure ?_)))
  simp only [Bool.false_eq_true, if_false]
  refine wpAny_bind (wpAny_holding (wpAny_pyIter_list hl (wpAny_bind (wpAny_holding (PySem.W.kun_draw ne i 0 _ _ ⟨_, Heap.get?_push_size _ rfl, rfl, rfl⟩ (hl.push _) (by omega) fun h1 it1 b1 => ?_)))))
  have l1 : h1.IsList l its := (hl.push _).extBut b1.extBut ne
  rw [Nat.zero_add] at it1
  obtain ⟨oi, hoi, _⟩ := id it1
  obtain ⟨ol, hol, _⟩ := id l1
  rw [List.drop_zero, if_neg (show ¬ ((its.toList.take i).length < i) by rw [List.length_take, Array.length_toList]; omega)]
  refine wpAny_bind (wpAny_holding (PySem.W.kun_collect (s := { s with heap := h1 }) (T := "list_iterator") (.inr (.inr (.inl rfl))) (Walks.list (A := A.in1) hh s.heap.objs.size l ne its) (fun j u st => st.1.typeIs) (k := i) hi ⟨it1, l1⟩ (Heap.lt_size hoi) (Heap.lt_size hol)
    (fun h2 tk hk => ?_) (by rw [sizeLine_eq]; omega)))
  have e0 : i + 1 - 1 - i = 0 := by omega
  rw [e0]
  show wpAny _ _ (if (its.toList.drop i).length < 0 then _ else _) _ _ _
  rw [if_neg (by omega)]
  show wpAny _ _ (newList ((its.toList.drop i).take ((its.toList.drop i).length - 0)) >>= fun d => pure (its.toList.take i ++ [d] ++ (its.toList.drop i).drop ((its.toList.drop i).length - 0))) _ _ _
  rw [Nat.sub_zero, List.take_length, List.drop_length]
  refine wpAny_bind (wpAny_newList (wpAny_pure ?_) (by rw [List.length_drop, Array.length_toList, sizeLine_eq]; omega))
  rw [List.append_nil]
  exact q h2 tk fun b o e => hk b o (Nat.ne_of_lt (Heap.lt_size e)) (b1.extBut b o (Nat.ne_of_lt (Heap.lt_size e)) (Heap.get?_push_of_some _ e))
theorem lastT {l i : Nat} {its : Array Value} {Q : List Value → Shared → Prop} (hl : IsTup s.heap l its) (hh : A.handled = none) (hi : i ≤ its.size) (hz : its.size ≤ 16384)
    (q : ∀ (h2 : Heap) (tk : Nat), (∀ b o, s.heap.get? b = some o → h2.get? b = some o) → Q (its.toList.take i ++ [.ref h2.objs.size]) { s with heap := h2.push { cls := .type "list", data := .seq (its.toList.drop i).toArray }, toks := tk }) :
    wpAny (model prog w) A (unpackItems (.ref l) (i + 1) (some i)) Q E s := by
  have ne : l ≠ s.heap.objs.size := let ⟨o, ho, _⟩ := hl; Nat.ne_of_lt (Heap.lt_size ho)
  unfold unpackItems notIterableAtAll
  refine wpAny_bind (wpAny_bind (wpAny_specialOf hl.typeIs slot_tuple_iter.lookup (wpAny_pure ?_)))
  simp only [Bool.false_eq_true, if_false]
  refine wpAny_bind (wpAny_holding (iter_tuple hl (wpAny_bind (wpAny_holding (draw_tuple ne i 0 _ _ ⟨_, Heap.get?_push_size _ rfl, rfl, rfl⟩ (hl.push _) (by omega) fun h1 it1 b1 => ?_)))))
  have l1 : IsTup h1 l its := (hl.push _).extBut b1.extBut ne
  rw [Nat.zero_add] at it1
  obtain ⟨oi, hoi, _⟩ := id it1
  obtain ⟨ol, hol, _⟩ := id l1
  rw [List.drop_zero, if_neg (show ¬ ((its.toList.take i).length < i) by rw [List.length_take, Array.length_toList]; omega)]
  refine wpAny_bind (wpAny_holding (PySem.W.kun_collect (s := { s with heap := h1 }) (T := "tuple_iterator") (.inr (.inr (.inr rfl))) (Walks.tuple (A := A.in1) hh s.heap.objs.size l ne its) (fun j u st => st.1.typeIs) (k := i) hi ⟨it1, l1⟩ (Heap.lt_size hoi) (Heap.lt_size hol)
    (fun h2 tk hk => ?_) (by rw [sizeLine_eq]; omega)))
  have e0 : i + 1 - 1 - i = 0 := by omega
  rw [e0]
  show wpAny _ _ (if (its.toList.drop i).length < 0 then _ else _) _ _ _
  rw [if_neg (by omega)]
  show wpAny _ _ (newList ((its.toList.drop i).take ((its.toList.drop i).length - 0)) >>= fun d => pure (its.toList.take i ++ [d] ++ (its.toList.drop i).drop ((its.toList.drop i).length - 0))) _ _ _
  rw [Nat.sub_zero, List.take_length, List.drop_length]
  refine wpAny_bind (wpAny_newList (wpAny_pure ?_) (by rw [List.length_drop, Array.length_toList, sizeLine_eq]; omega))
  rw [List.append_nil]
  exact q h2 tk fun b o e => hk b o (Nat.ne_of_lt (Heap.lt_size e)) (b1.extBut b o (Nat.ne_of_lt (Heap.lt_size e)) (Heap.get?_push_of_some _ e))
end
section
variable {X : Cx} {pos : Pos}
def gStar (K : PySem.W.Frag) (i : Nat) (t : TGs) : TG := fun v σ H Q => ∃ a xs, v = .ref a ∧ (SqT K H a xs ∨ SqL K H a xs) ∧ i ≤ xs.length ∧ xs.length ≤ 16384 ∧ ∀ D, H D = none → t (xs.take i ++ [.ref D]) σ (upd H D (.lst (xs.drop i))) Q
theorem pgs_st {x : Str} {p : Pos} {es : List Expr} {t : TGs} (h : PGs X (.Name x p :: es) t) : PGs X (.Starred (.Name x p) pos :: es) t := ⟨h.run⟩
theorem pg_star {es : List Expr} {k i : Nat} {t : TGs} (hc : X.calm = true) (h : PGs X es t) (hn : (assignEach es X.env).length = i + 1 := by rfl) (hst : (assignEach es X.env).findIdx? (·.1) = some i := by rfl) : PG X (.Tuple es k pos) (gStar X.K i t) := by
  refine ⟨fun pins s σ H v u Q I r hw => ?_⟩
  obtain ⟨a, xs, rfl, hq, hi, hz, hw⟩ := hw
  cases r
  have fin : ∀ (its : List Value), Vals xs its → ∀ (h2 : Heap) (tk : Nat), (∀ b o, s.heap.get? b = some o → h2.get? b = some o) →
      wpAny (model X.prog X.w) X.A (assignInOrder ((assignEach es X.env).map (·.2)) (its.toArray.toList.take i ++ [.ref h2.objs.size])) (fun _ s' => ∃ σ' H', Inv X pins σ' H' s' ∧ Q σ' H') X.xe
        { s with heap := h2.push { cls := .type "list", data := .seq (its.toArray.toList.drop i).toArray }, toks := tk } := fun its rv h2 tk hk => by
    have I2 : Inv X pins σ H { s with heap := h2, toks := tk } := I.kept hk
    have I3 := I2.lnew (t' := tk) (rv.drop i) (by rw [List.length_drop, sizeLine_eq]; omega)
    exact h.run pins _ σ _ _ _ Q I3 ((rv.take i).append (.cons (show L2.RelV (.ref h2.objs.size) (Value.ref h2.objs.size) from rfl) .nil)) (hw h2.objs.size (I2.hok.fresh (Nat.le_refl _)))
  rw [PyProof.Rows.assign_Tuple]
  refine wpAny_bind (wpAny_standAt ?_)
  unfold unpack
  rw [hn, hst]
  rcases hq with hq | hq
  · obtain ⟨its, rv, ht, _⟩ := I.tuple hq
    have e : its.toArray.size = xs.length := by simp [rv.length]
    exact wpAny_bind (wpAny_holding (lastT ht (I.ok.hd hc) (by omega) (by omega) (fin its rv)))
  · obtain ⟨its, rv, ht, _⟩ := I.list hq
    have e : its.toArray.size = xs.length := by simp [rv.length]
    exact wpAny_bind (wpAny_holding (lastL ht.isList (I.ok.hd hc) (by omega) (by omega) (fin its rv)))
end
end Ph
set_option linter.all false
set_option maxRecDepth 100000
set_option maxHeartbeats 40000000
set_option exponentiation.threshold 500
namespace Ph
open PySem PySem.Spec PyProof.Rows L2
/-! ### data of numbers without roots, by depth -/
def RL (CE : Addr) : Nat → Ap
  | 0 => fun H v => ∃ q, Num CE H v q
  | d + 1 => fun H v => (∃ q, Num CE H v q) ∨ ∃ a xs, v = .ref a ∧ (H a = some (.tup xs) ∨ H a = some (.lst xs)) ∧ xs.length ≤ 100 ∧ ∀ x ∈ xs, RL CE d H x
section
variable {CE : Addr}
theorem mo_rl : ∀ {d : Nat}, Mo (RL CE d)
  | 0 => fun _ _ _ s ⟨q, h⟩ => ⟨q, h.ext s⟩
  | d + 1 => fun _ _ _ s h => by
    rcases h with ⟨q, h⟩ | ⟨a, xs, e, h, l, k⟩
    · exact .inl ⟨q, h.ext s⟩
    · exact .inr ⟨a, xs, e, h.elim (fun z => .inl (s _ _ z)) (fun z => .inr (s _ _ z)), l, fun x hx => mo_rl _ _ _ s (k x hx)⟩
theorem rl_up : ∀ {d : Nat} {H : Hp} {v : V}, RL CE d H v → RL CE (d + 1) H v
  | 0, _, _, h => .inl h
  | d + 1, _, _, h => by
    rcases h with h | ⟨a, xs, e, h, l, k⟩
    · exact .inl h
    · exact .inr ⟨a, xs, e, h, l, fun x hx => rl_up (k x hx)⟩
theorem rl_num {d : Nat} {H : Hp} {v : V} {q : Rat} (h : Num CE H v q) : RL CE d H v := by
  cases d with
  | zero => exact ⟨q, h⟩
  | succ d => exact .inl ⟨q, h⟩
theorem rl_pt {d : Nat} {H : Hp} {v : V} {p : P2} (h : PtA CE p H v) : RL CE (d + 1) H v := by
  obtain ⟨a, x, y, rfl, e, h1, h2⟩ := h
  refine .inr ⟨a, _, rfl, .inl e, by show 2 ≤ 100; decide, fun z hz => ?_⟩
  simp only [List.mem_cons, List.not_mem_nil, or_false] at hz
  rcases hz with rfl | rfl
  · exact rl_num h1
  · exact rl_num h2
theorem rl_ln {d : Nat} {H : Hp} {v : V} {p : L3} (h : LnA CE p H v) : RL CE (d + 1) H v := by
  obtain ⟨a, x, y, z, rfl, e, h1, h2, h3⟩ := h
  refine .inr ⟨a, _, rfl, .inl e, by show 3 ≤ 100; decide, fun u hu => ?_⟩
  simp only [List.mem_cons, List.not_mem_nil, or_false] at hu
  rcases hu with rfl | rfl | rfl
  · exact rl_num h1
  · exact rl_num h2
  · exact rl_num h3
theorem rl_ci {d : Nat} {H : Hp} {v : V} {c : P2 × Rat} (h : CiA CE c H v) : RL CE (d + 2) H v := by
  obtain ⟨a, x, y, rfl, e, h1, h2⟩ := h
  refine .inr ⟨a, _, rfl, .inl e, by show 2 ≤ 100; decide, fun u hu => ?_⟩
  simp only [List.mem_cons, List.not_mem_nil, or_false] at hu
  rcases hu with rfl | rfl
  · exact rl_pt h1
  · exact rl_num h2
end
section
variable {P : Program} {w : World} {K : PySem.W.Frag} {mg : Str → Option Value} {base : Heap} {CE : Addr}
abbrev s_with_roots : Stmt := top 45
theorem sc_with_roots : FnScope ["thing", "part", "number"] ["thing"] (defScope s_with_roots) := ⟨rfl, rfl, rfl, by decide +kernel, rfl, by decide +kernel, by decide +kernel⟩
def spRoots (CE : Addr) (d : Nat) : Sp := fun vs H Q _ => ∃ v : V, vs = [v] ∧ RL CE d H v ∧ ∀ p H', Same H H' → H p = none → H' p = some (.lst []) → Q (.ref p) H'
theorem kit_ee (T : Tx K mg CE) : PySem.W.kitOne K (.ref CE) (.ref CE) = some true := by
  unfold PySem.W.kitOne
  rw [if_pos (by simp)]
theorem ins_ty {H : Hp} {a dx : Addr} {fs : List (Str × V)} (T : Tx K mg CE) (h : H a = some (.ins CE dx fs)) : TyX K H (.ref a) (.ref CE) := .base (.ins h T.cl T.isc T.isn T.ist T.mro)
/-- what the two loops come to, whatever is walked -/
theorem roots_loop {xs : List V} {d D : Nat} {H H1 : Hp} {σ : L2.St} {v : V} (J : It) (hs : ∀ i H', Same H H' → xs.length ≤ i → J.stop i H') (hg : ∀ i H', Same H H' → i < xs.length → J.go i H') (hy : ∀ i H' x H2, Same H H' → J.yld i H' x H2 → H2 = H' ∧ x ∈ xs)
    (hx : ∀ x ∈ xs, RL CE d H x) (hσ : σ = [some v, none, none]) (hD : H1 D = none) (s1 : Same H H1) {Q : VK} {E : XK} (k : ∀ H', Same H H' → H' D = some (.lst []) → Q (.ref D) H') :
    ∃ W : Nat → Nat → Hp → Prop, (∃ m, W 0 m (upd H1 D (.lst []))) ∧ ∀ i m H, W i m H →
      (J.stop i H ∧ Q (.ref D) H) ∨ (J.go i H ∧ ∃ Nx : Hp → Prop, (∀ H', Nx H' → ∃ m', m' < m ∧ W (i + 1) m' H') ∧ ∀ x H', J.yld i H x H' → gName 1 x (wipe σ [1, 2]) H' fun σ2 H2 => wipe σ2 [1, 2] = wipe σ [1, 2] ∧ tYes σ2 H2 fun b H3 =>
        if b = true then iList K (tCall (spRoots CE d) [] E (tCons (tVar 1) tNil)) σ2 H3 fun J1 H4 => ∃ W1 : Nat → Nat → Hp → Prop, (∃ m, W1 0 m H4) ∧ ∀ j k H, W1 j k H →
          (J1.stop j H ∧ Nx H) ∨ (J1.go j H ∧ ∃ Nx1 : Hp → Prop, (∀ H', Nx1 H' → ∃ k', k' < k ∧ W1 (j + 1) k' H') ∧ ∀ x H', J1.yld j H x H' → gName 2 x (wipe σ2 [2]) H' fun σ3 H5 => wipe σ3 [2] = wipe σ2 [2] ∧ tYes σ3 H5 fun b H6 =>
            if b = true then tVar 2 σ3 H6 fun y H7 => ∃ acc, H7 D = some (.lst acc) ∧ acc.length < sizeLine ∧ Nx1 (upd H7 D (.lst (acc ++ [y]))) else Nx1 H6)
        else Nx H3) := by
  subst hσ
  refine ⟨fun i m H' => m = xs.length - i ∧ i ≤ xs.length ∧ Same H H' ∧ H' D = some (.lst []), ⟨xs.length, rfl, Nat.zero_le _, s1.trans (same_new hD), upd_same⟩, ?_⟩
  rintro i m H' ⟨rfl, hi, s', hD'⟩
  by_cases hlt : i < xs.length
  · refine .inr ⟨hg i H' s' hlt, fun H2 => Same H H2 ∧ H2 D = some (.lst []), fun H2 ⟨a, b⟩ => ⟨_, by omega, rfl, hlt, a, b⟩, fun x H2 y => ?_⟩
    obtain ⟨rfl, hm⟩ := hy i H' x H2 s' y
    refine ⟨rfl, ?_⟩
    refine ⟨_, rfl, x, rfl, mo_rl _ _ _ s' (hx x hm), fun p H3 s3 _ hp => ⟨p, rfl, ⟨[], SqL.of hp⟩, ?_⟩⟩
    refine ⟨fun j _ H4 => j = 0 ∧ Same H3 H4, ⟨0, rfl, Same.refl _⟩, fun j _ H4 ⟨j0, s4⟩ => .inl ⟨⟨[], SqL.of (s4 _ _ hp), Nat.zero_le _⟩, (s'.trans s3).trans s4, s4 _ _ (s3 _ _ hD')⟩⟩
  · exact .inl ⟨hs i H' s' (by omega), k H' s' hD'⟩
theorem ok_with_roots (T : Tx K mg CE) (B : Bl mg) (F : FnAt K mg "with_roots" s_with_roots) : ∀ d : Nat, Cal P w K mg base CX0 (d + 1) "with_roots" ["thing"] (spRoots CE d)
  | 0 => by
    refine Cal.of0 F sc_with_roots (fun _ _ _ _ _ _ us hl => match us, hl with | [_], _ => rfl) (fun vs H Q E h => ?_) (fun f cdv A outer s H vs Q E hr h => ?_)
    · obtain ⟨v, rfl, _⟩ := h
      rfl
    · obtain ⟨v, rfl, ⟨q, a, dx, rfl, h1⟩, k⟩ := h
      refine ⟨_, (pss_cons (ps_if (pt_val (pe_callB call_isi (by rfl) B.isinstance (by decide +kernel) (pa_cons (pv 0) (pa_cons (pe_glob (v := .ref CE) (by rfl) T.mgE rfl) pa_nil)))) (pss_one (ps_ret (pe_ifExp (pt_cmpR op_ne (pe_fld (pv 0) rfl) pe_int (nomark _)) (pe_lst (pa_cons (pv 0) pa_nil)) (pe_lst pa_nil)))) pss_nil)
      (pss_one (ps_never))), ?_⟩
      refine ⟨_, rfl, _, _, _, _, _, rfl, .own CE, ins_ty T h1, kit_ee T, true, rfl, ?_⟩
      refine yes rfl ?_
      refine ⟨_, rfl, a, CE, dx, _, _, rfl, h1, T.cl, T.nS, flS _ _, rfl, _, rfl, ?_⟩
      refine no rfl ?_
      exact ⟨Nat.zero_le _, fun p hp => k p _ (same_new hp) hp upd_same⟩
  | d + 1 => by
    have c_with_roots := ok_with_roots T B F d
    refine Cal.of0 F sc_with_roots (fun _ _ _ _ _ _ us hl => match us, hl with | [_], _ => rfl) (fun vs H Q E h => ?_) (fun f cdv A outer s H vs Q E hr h => ?_)
    · obtain ⟨v, rfl, _⟩ := h
      rfl
    · obtain ⟨v, rfl, h1, k⟩ := h
      rcases h1 with ⟨q, a, dx, rfl, h1⟩ | ⟨a, xs, rfl, ha | ha, hl, hx⟩
      · refine ⟨_, (pss_cons (ps_if (pt_val (pe_callB call_isi (by rfl) B.isinstance (by decide +kernel) (pa_cons (pv 0) (pa_cons (pe_glob (v := .ref CE) (by rfl) T.mgE rfl) pa_nil)))) (pss_one (ps_ret (pe_ifExp (pt_cmpR op_ne (pe_fld (pv 0) rfl) pe_int (nomark _)) (pe_lst (pa_cons (pv 0) pa_nil)) (pe_lst pa_nil)))) pss_nil)
      (pss_one (ps_never))), ?_⟩
        refine ⟨_, rfl, _, _, _, _, _, rfl, .own CE, ins_ty T h1, kit_ee T, true, rfl, ?_⟩
        refine yes rfl ?_
        refine ⟨_, rfl, a, CE, dx, _, _, rfl, h1, T.cl, T.nS, flS _ _, rfl, _, rfl, ?_⟩
        refine no rfl ?_
        exact ⟨Nat.zero_le _, fun p hp => k p _ (same_new hp) hp upd_same⟩
      · refine ⟨_, pss_cons (ps_if (pt_val (pe_callB call_isi (by rfl) B.isinstance (by decide +kernel) (pa_cons (pv 0) (pa_cons (pe_glob (v := .ref CE) (by rfl) T.mgE rfl) pa_nil)))) (pss_one ps_never) pss_nil)
          (pss_one (ps_ret (pe_lc2 (own := [("part", 1), ("number", 2)]) (g := gName 1) (g1 := gName 2) (vs1 := [2]) (wi1 := iList K (tCall (spRoots CE d) [] E0 (tCons (tVar 1) tNil))) (by rfl) sc_with_roots.nd (pi_tup (pv 0)) (blkOk_by (own := [("part", 1), ("number", 2)]) (N := ["thing", "part", "number"]) (sc := defScope s_with_roots) (by decide +kernel)) (by decide)
            (fun _ _ _ _ _ => pg_name (i := 1) sc_with_roots.nd rfl (.inl rfl)) (fun _ _ _ _ _ => pts_nil) (fun _ _ _ _ _ => pi_list (pe_c c_with_roots hr (pa_cons (pv 1) pa_nil))) (fun _ _ _ _ _ => pg_name (i := 2) sc_with_roots.nd rfl (.inl rfl)) (fun _ _ _ _ _ => pts_nil) (fun _ _ _ _ _ => pv 2)))), ?_⟩
        refine ⟨_, rfl, _, _, _, _, _, rfl, .own CE, .base (.tup ha), T.tupE, false, rfl, ?_⟩
        refine no rfl ?_
        refine ⟨_, rfl, a, rfl, ⟨xs, SqT.of ha⟩, fun D hD => ?_⟩
        refine roots_loop (xs := xs) (Itt K a) (fun i H' s' h => ⟨xs, SqT.of (s' _ _ ha), h⟩) (fun i H' s' h => ⟨xs, xs[i], SqT.of (s' _ _ ha), by simp [h]⟩) (fun i H' x H2 s' y => ⟨y.1, List.mem_of_getElem? (y.2 xs (SqT.of (s' _ _ ha)))⟩) hx rfl hD (Same.refl _) fun H' s' h => k D H' s' hD h
      · refine ⟨_, pss_cons (ps_if (pt_val (pe_callB call_isi (by rfl) B.isinstance (by decide +kernel) (pa_cons (pv 0) (pa_cons (pe_glob (v := .ref CE) (by rfl) T.mgE rfl) pa_nil)))) (pss_one ps_never) pss_nil)
          (pss_one (ps_ret (pe_lc2 (own := [("part", 1), ("number", 2)]) (g := gName 1) (g1 := gName 2) (vs1 := [2]) (wi1 := iList K (tCall (spRoots CE d) [] E0 (tCons (tVar 1) tNil))) (by rfl) sc_with_roots.nd (pi_list (pv 0)) (blkOk_by (own := [("part", 1), ("number", 2)]) (N := ["thing", "part", "number"]) (sc := defScope s_with_roots) (by decide +kernel)) (by decide)
            (fun _ _ _ _ _ => pg_name (i := 1) sc_with_roots.nd rfl (.inl rfl)) (fun _ _ _ _ _ => pts_nil) (fun _ _ _ _ _ => pi_list (pe_c c_with_roots hr (pa_cons (pv 1) pa_nil))) (fun _ _ _ _ _ => pg_name (i := 2) sc_with_roots.nd rfl (.inl rfl)) (fun _ _ _ _ _ => pts_nil) (fun _ _ _ _ _ => pv 2)))), ?_⟩
        refine ⟨_, rfl, _, _, _, _, _, rfl, .own CE, .base (.lst ha), T.lstE, false, rfl, ?_⟩
        refine no rfl ?_
        refine ⟨_, rfl, a, rfl, ⟨xs, SqL.of ha⟩, fun D hD => ?_⟩
        refine roots_loop (xs := xs) (Itl K a) (fun i H' s' h => ⟨xs, SqL.of (s' _ _ ha), h⟩) (fun i H' s' h => ⟨xs, xs[i], SqL.of (s' _ _ ha), by simp [h]⟩) (fun i H' x H2 s' y => ⟨y.1, List.mem_of_getElem? (y.2 xs (SqL.of (s' _ _ ha)))⟩) hx rfl hD (Same.refl _) fun H' s' h => k D H' s' hD h
end
end Ph
set_option linter.all false
set_option maxRecDepth 100000
set_option maxHeartbeats 40000000
set_option exponentiation.threshold 500
namespace Ph
open PySem PySem.Spec PyProof.Rows L2
section
variable {P : Program} {w : World} {K : PySem.W.Frag} {mg : Str → Option Value} {base : Heap} {CE CN : Addr}
theorem eg_l1 {σ : L2.St} {H : Hp} {A : Ap} {ta : TE} (ma : Mo A) (ea : EG A ta σ H) : EG (fun H v => ∃ a x, v = .ref a ∧ H a = some (.lst [x]) ∧ A H x) (tLst (tCons ta tNil)) σ H := fun H1 s Q k =>
  ea H1 s _ fun v H2 s2 a => ⟨by show 1 ≤ sizeLine; decide, fun p hp => k _ _ (s2.trans (same_new hp)) ⟨p, v, rfl, upd_same, ma _ _ _ (same_new hp) a⟩⟩
abbrev s_must_agree : Stmt := top 46
theorem sc_must_agree : FnScope ["things", "first", "others", "number"] ["things"] (defScope s_must_agree) := ⟨rfl, rfl, rfl, by decide +kernel, rfl, by decide +kernel, by decide +kernel⟩
def spAgree (CE : Addr) : Sp := fun vs H Q _ => ∃ v : V, vs = [v] ∧ RL CE 4 H v ∧ ∀ H', Same H H' → Q .non H'
theorem ok_must_agree (X : Mts P w K mg base CE) (c_with_roots : Cal P w K mg base CX0 5 "with_roots" ["thing"] (spRoots CE 4)) (F : FnAt K mg "must_agree" s_must_agree) : Cal P w K mg base CX0 40 "must_agree" ["things"] (spAgree CE) := by
  refine Cal.of0 F sc_must_agree (fun _ _ _ _ _ _ us hl => match us, hl with | [_], _ => rfl) (fun vs H Q E h => ?_) (fun f cdv A outer s H vs Q E hr h => ?_)
  · obtain ⟨v, rfl, _⟩ := h
    rfl
  · obtain ⟨v, rfl, hv, k⟩ := h
    have m_plus := X.plus
    have T := X.T
    have M := X.M
    refine ⟨_, (pss_cons (ps_asg (pe_op op_cat (pe_c c_with_roots (hr.mono (by decide)) (pa_cons (pv 0) pa_nil)) (pe_lst (pa_cons (pe_e1 M T (hr.mono (by decide)) (pa_cons pe_int pa_nil)) pa_nil))) (pg_star (i := 1) rfl (pgs_cons (pg_name (i := 1) sc_must_agree.nd rfl (.inl rfl)) (pgs_st (pgs_cons (pg_name (i := 2) sc_must_agree.nd rfl (.inl rfl)) pgs_nil)))))
      (pss_one (ps_for PassesOwn.never rfl (pi_list (pv 2)) (pg_name (i := 3) sc_must_agree.nd rfl (.inl rfl)) (pss_one (ps_expr (pe_mt m_plus T.cl (hr.mono (by decide)) (pv 1) (pa_cons (pv 3) pa_nil))))))), ?_⟩
    refine ⟨_, rfl, v, rfl, hv, fun p1 H1 s1 _ h1 => ?_⟩
    refine (eg_l1 mo_num (eg_e1 i4_0)).run fun v3 H3 s3 ⟨p3, v2, e3, h3, _⟩ => ?_
    subst e3
    refine ⟨p1, p3, _, _, rfl, rfl, s3 _ _ h1, h3, by show 0 + 1 ≤ sizeLine; decide, fun p4 n4 => ?_⟩
    refine ⟨p4, [v2], rfl, .inr (SqL.of upd_same), by show 1 ≤ 1; decide, by show 1 ≤ 16384; decide, fun D hD => ?_⟩
    refine ⟨_, _, rfl, _, _, rfl, rfl, ?_⟩
    refine ⟨_, rfl, D, rfl, ⟨[], SqL.of upd_same⟩, ?_⟩
    refine for_list (K := K) (a := D) (xs := []) (fun i σ' H' => Same H H' ∧ H' D = some (.lst [])) ⟨((s1.trans s3).trans (same_new n4)).trans (same_new hD), upd_same⟩ (fun i σ' H' _ h => SqL.of h.2) (fun i x σ' H' hx _ => by simp at hx) ?_
    rintro σ' H' ⟨s', _⟩
    exact k H' s'
theorem rl_pair {H : Hp} {a : Addr} {x y : V} (e : H a = some (.tup [x, y])) (h1 : RL CE 3 H x) (h2 : RL CE 3 H y) : RL CE 4 H (.ref a) := by
  refine .inr ⟨a, _, rfl, .inl e, by show 2 ≤ 100; decide, fun z hz => ?_⟩
  simp only [List.mem_cons, List.not_mem_nil, or_false] at hz
  rcases hz with rfl | rfl
  · exact h1
  · exact h2
theorem eg_agree {σ : L2.St} {H : Hp} {E : XK} {i j : Nat} {v u : V} (hv : σ[i]? = some (some v)) (hu : σ[j]? = some (some u)) (h1 : RL CE 3 H v) (h2 : RL CE 3 H u) : EG (fun _ v => v = .non) (tCall (spAgree CE) [] E (tCons (tTup (tCons (tVar i) (tCons (tVar j) tNil))) tNil)) σ H :=
  eg_f1 (A := RL CE 4) (fun v H1 Q a k => ⟨v, rfl, a, fun H' s => k _ H' s rfl⟩) ((eg_t2 mo_rl mo_rl (eg_var hv mo_rl h1) (eg_var hu mo_rl h2)).imp fun H' v ⟨a, x, y, e1, e2, e3, e4⟩ => by
    subst e1
    exact rl_pair e2 e3 e4)
/-! ### the lines -/
theorem left0 {p : P2} : ((leftP p).1 ≠ 0 ∨ (leftP p).2 ≠ 0) ↔ (p.1 ≠ 0 ∨ p.2 ≠ 0) := by
  unfold leftP
  simp only [ne_eq]
  grind
abbrev s_line_through : Stmt := top 34
theorem sc_line_through : FnScope ["p", "q"] ["p", "q"] (defScope s_line_through) := ⟨rfl, rfl, rfl, by decide +kernel, rfl, by decide +kernel, by decide +kernel⟩
def throughL (p q : P2) : L3 := lineBy p (leftP (wayB p q))
def spThrough (CE CN : Addr) : Sp := fun vs H Q E => ∃ (v u : V) (p q : P2) (n : Nat), vs = [v, u] ∧ PtA CE p H v ∧ PtA CE q H u ∧ SmP n p ∧ SmP n q ∧ 14 * n + 21 ≤ 4000000 ∧
  (p ≠ q → ∀ x H', Same H H' → LnA CE (throughL p q) H' x → Q x H') ∧ (p = q → ∀ H', Same H H' → E (.ref CN) none H')
theorem way0 {p q : P2} : p = q ↔ (wayB p q).1 = 0 ∧ (wayB p q).2 = 0 := by
  obtain ⟨a, b⟩ := p
  obtain ⟨c, d⟩ := q
  unfold wayB
  simp only [Prod.mk.injEq]
  grind
theorem ok_line_through (c_must_agree : Cal P w K mg base CX0 40 "must_agree" ["things"] (spAgree CE)) (c_line_by : Cal P w K mg base (L2.CX P w) 42 "line_by" ["p", "upright_way"] (spLineBy CE CN)) (c_leftwards : Cal P w K mg base CX0 42 "leftwards" ["way"] (spLeft CE))
    (c_way_between : Cal P w K mg base CX0 41 "way_between" ["p", "q"] (spWay CE)) (F : FnAt K mg "line_through" s_line_through) : Cal P w K mg base (L2.CX P w) 43 "line_through" ["p", "q"] (spThrough CE CN) := by
  refine Cal.of F sc_line_through (fun _ _ _ _ _ _ us hl => match us, hl with | [_, _], _ => rfl) (fun vs H Q E h => ?_) (fun f cdv A outer s H vs Q E hr h => ?_)
  · obtain ⟨v, u, p, q, n, rfl, _⟩ := h
    rfl
  · obtain ⟨v, u, p, q, n, rfl, hp, hq, zp, zq, hc, kq, ke⟩ := h
    refine ⟨_, (pss_cons (ps_expr (pe_c c_must_agree (hr.mono (by decide)) (pa_cons (pe_tup (pa_cons (pv 0) (pa_cons (pv 1) pa_nil))) pa_nil)))
      (pss_one (ps_ret (pe_cx (E := E) c_line_by (hr.mono (by decide)) (passes_call (takes_of rfl rfl rfl rfl) fun _ _ _ _ z => z) (pa_cons (pv 0) (pa_cons (pe_c c_leftwards (hr.mono (by decide)) (pa_cons (pe_c c_way_between (hr.mono (by decide)) (pa_cons (pv 0) (pa_cons (pv 1) pa_nil))) pa_nil)) pa_nil)))))), ?_⟩
    refine (eg_agree (i := 0) (j := 1) rfl rfl (rl_pt hp) (rl_pt hq)).run fun _ H1 s1 _ => ?_
    have zw := zp.way zq
    refine ⟨_, rfl, ?_⟩
    refine (eg_left (eg_way (eg_var rfl mo_pt (mo_pt _ _ _ s1 hp)) (eg_var rfl mo_pt (mo_pt _ _ _ s1 hq)) zp zq (by omega)) zw (by omega)).run fun v2 H2 s2 h2 => ?_
    have s12 := s1.trans s2
    refine ⟨_, v2, p, _, n, _, rfl, mo_pt _ _ _ s12 hp, h2, zp, zw.left, by omega, fun hz x H3 s3 h3 => kq ?_ x H3 (s12.trans s3) h3, fun z1 z2 H3 s3 => ke ?_ H3 (s12.trans s3)⟩
    · intro e
      obtain ⟨a, b⟩ := way0.mp e
      rcases left0.mp hz with z | z
      · exact z a
      · exact z b
    · refine way0.mpr ?_
      have := mt left0.mpr (fun z => z.elim (fun z => z z1) (fun z => z z2))
      grind
def alongL (p : P2) (l : L3) : L3 := lineBy p (dirL l)
def uprightL (p : P2) (l : L3) : L3 := lineBy p (leftP (dirL l))
def spLine (CE : Addr) (g : P2 → L3 → L3) : Sp := fun vs H Q _ => ∃ (v u : V) (p : P2) (l : L3) (n m : Nat), vs = [v, u] ∧ PtA CE p H v ∧ LnA CE l H u ∧ SmP n p ∧ SmL m l ∧ 2 * n + 6 * m + 20 ≤ 4000000 ∧ (l.1 ≠ 0 ∨ l.2.1 ≠ 0) ∧ ∀ x H', Same H H' → LnA CE (g p l) H' x → Q x H'
theorem eg_line {g : P2 → L3 → L3} {σ : L2.St} {H : Hp} {ta tb : TE} {p : P2} {l : L3} {n m : Nat} {E : XK} (ea : EG (PtA CE p) ta σ H) (eb : EG (LnA CE l) tb σ H) (zp : SmP n p) (zl : SmL m l) (hc : 2 * n + 6 * m + 20 ≤ 4000000) (h0 : l.1 ≠ 0 ∨ l.2.1 ≠ 0) :
    EG (LnA CE (g p l)) (tCall (spLine CE g) [] E (tCons ta (tCons tb tNil))) σ H :=
  eg_f2 (A := PtA CE p) (B := LnA CE l) (fun v u H1 Q a b k => ⟨v, u, p, l, n, m, rfl, a, b, zp, zl, hc, h0, k⟩) mo_pt ea eb
theorem eg_lineBy {σ : L2.St} {H : Hp} {ta tb : TE} {p q : P2} {n m : Nat} {E : XK} (ea : EG (PtA CE p) ta σ H) (eb : EG (PtA CE q) tb σ H) (zp : SmP n p) (zq : SmP m q) (hc : 2 * n + 6 * m + 3 ≤ 4000000) (h0 : q.1 ≠ 0 ∨ q.2 ≠ 0) :
    EG (LnA CE (lineBy p q)) (tCall (fun vs H Q _ => spLineBy CE CN vs H Q E0) [] E (tCons ta (tCons tb tNil))) σ H :=
  eg_f2 (A := PtA CE p) (B := PtA CE q) (fun v u H1 Q a b k => ⟨v, u, p, q, n, m, rfl, a, b, zp, zq, hc, fun _ => k, fun z1 z2 => (h0.elim (fun z => z z1) (fun z => z z2)).elim⟩) mo_pt ea eb
abbrev s_line_along : Stmt := top 35
theorem sc_line_along : FnScope ["p", "line"] ["p", "line"] (defScope s_line_along) := ⟨rfl, rfl, rfl, by decide +kernel, rfl, by decide +kernel, by decide +kernel⟩
theorem ok_line_along (c_must_agree : Cal P w K mg base CX0 40 "must_agree" ["things"] (spAgree CE)) (d_line_by : Cal P w K mg base (L2.CX P w) 42 "line_by" ["p", "upright_way"] (spLineBy CE CN)) (F : FnAt K mg "line_along" s_line_along) : Cal P w K mg base CX0 43 "line_along" ["p", "line"] (spLine CE alongL) := by
  have c_line_by := d_line_by.calm
  refine Cal.of0 F sc_line_along (fun _ _ _ _ _ _ us hl => match us, hl with | [_, _], _ => rfl) (fun vs H Q E h => ?_) (fun f cdv A outer s H vs Q E hr h => ?_)
  · obtain ⟨v, u, p, l, n, m, rfl, _⟩ := h
    rfl
  · obtain ⟨v, u, p, l, n, m, rfl, hp, hl, zp, zl, hc, h0, k⟩ := h
    refine ⟨_, (pss_cons (ps_expr (pe_c c_must_agree (hr.mono (by omega)) (pa_cons (pe_tup (pa_cons (pv 0) (pa_cons (pv 1) pa_nil))) pa_nil)))
      (pss_one (ps_ret (pe_c c_line_by (hr.mono (by omega)) (pa_cons (pv 0) (pa_cons (pe_slice sl_tup (pv 1) po_none (po_some pe_int)) pa_nil)))))), ?_⟩
    refine (eg_agree (i := 0) (j := 1) rfl rfl (rl_pt hp) (rl_ln hl)).run fun _ H1 s1 _ => ?_
    exact (eg_lineBy (E := E0) (eg_var rfl mo_pt (mo_pt _ _ _ s1 hp)) (eg_dir rfl (mo_ln _ _ _ s1 hl)) zp zl.dir (by omega) h0).run fun x H2 s2 h2 => k x H2 (s1.trans s2) h2
abbrev s_line_upright : Stmt := top 36
theorem sc_line_upright : FnScope ["p", "line"] ["p", "line"] (defScope s_line_upright) := ⟨rfl, rfl, rfl, by decide +kernel, rfl, by decide +kernel, by decide +kernel⟩
theorem ok_line_upright (c_must_agree : Cal P w K mg base CX0 40 "must_agree" ["things"] (spAgree CE)) (d_line_by : Cal P w K mg base (L2.CX P w) 42 "line_by" ["p", "upright_way"] (spLineBy CE CN)) (c_leftwards : Cal P w K mg base CX0 42 "leftwards" ["way"] (spLeft CE))
    (F : FnAt K mg "line_upright" s_line_upright) : Cal P w K mg base CX0 43 "line_upright" ["p", "line"] (spLine CE uprightL) := by
  have c_line_by := d_line_by.calm
  refine Cal.of0 F sc_line_upright (fun _ _ _ _ _ _ us hl => match us, hl with | [_, _], _ => rfl) (fun vs H Q E h => ?_) (fun f cdv A outer s H vs Q E hr h => ?_)
  · obtain ⟨v, u, p, l, n, m, rfl, _⟩ := h
    rfl
  · obtain ⟨v, u, p, l, n, m, rfl, hp, hl, zp, zl, hc, h0, k⟩ := h
    refine ⟨_, (pss_cons (ps_expr (pe_c c_must_agree (hr.mono (by omega)) (pa_cons (pe_tup (pa_cons (pv 0) (pa_cons (pv 1) pa_nil))) pa_nil)))
      (pss_one (ps_ret (pe_c c_line_by (hr.mono (by omega)) (pa_cons (pv 0) (pa_cons (pe_c c_leftwards (hr.mono (by omega)) (pa_cons (pe_slice sl_tup (pv 1) po_none (po_some pe_int)) pa_nil)) pa_nil)))))), ?_⟩
    refine (eg_agree (i := 0) (j := 1) rfl rfl (rl_pt hp) (rl_ln hl)).run fun _ H1 s1 _ => ?_
    exact (eg_lineBy (E := E0) (eg_var rfl mo_pt (mo_pt _ _ _ s1 hp)) (eg_left (eg_dir rfl (mo_ln _ _ _ s1 hl)) zl.dir (by omega)) zp zl.dir.left (by omega) (left0.mpr h0)).run fun x H2 s2 h2 => k x H2 (s1.trans s2) h2
/-! ### points of lines -/
abbrev s_lines_meet : Stmt := top 37
theorem sc_lines_meet : FnScope ["one", "other", "below", "x", "y"] ["one", "other"] (defScope s_lines_meet) := ⟨rfl, rfl, rfl, by decide +kernel, rfl, by decide +kernel, by decide +kernel⟩
def meetX (l m : L3) : Rat := l.2.2 * m.2.1 - m.2.2 * l.2.1
def meetY (l m : L3) : Rat := l.1 * m.2.2 - m.1 * l.2.2
def meetP (l m : L3) : P2 := (meetX l m / crsP (dirL l) (dirL m), meetY l m / crsP (dirL l) (dirL m))
def spMeet (CE : Addr) : Sp := fun vs H Q _ => ∃ (v u : V) (l m : L3) (n : Nat), vs = [v, u] ∧ LnA CE l H v ∧ LnA CE m H u ∧ SmL n l ∧ SmL n m ∧ 16 * n + 5 ≤ 4000000 ∧
  (crsP (dirL l) (dirL m) ≠ 0 → ∀ x H', Same H H' → PtA CE (meetP l m) H' x → Q x H') ∧ (crsP (dirL l) (dirL m) = 0 → ∀ H', Same H H' → Q .non H')
theorem ok_lines_meet (X : Mts P w K mg base CE) (c_must_agree : Cal P w K mg base CX0 40 "must_agree" ["things"] (spAgree CE)) (c_cross : Cal P w K mg base CX0 41 "cross" ["one", "other"] (spDot CE crsP)) (F : FnAt K mg "lines_meet" s_lines_meet) :
    Cal P w K mg base CX0 42 "lines_meet" ["one", "other"] (spMeet CE) := by
  refine Cal.of0 F sc_lines_meet (fun _ _ _ _ _ _ us hl => match us, hl with | [_, _], _ => rfl) (fun vs H Q E h => ?_) (fun f cdv A outer s H vs Q E hr h => ?_)
  · obtain ⟨v, u, l, m, n, rfl, _⟩ := h
    rfl
  · obtain ⟨v, u, l, m, n, rfl, hl, hm, zl, zm, hc, kq, kn⟩ := h
    have m_sign_of := X.sign
    have m_minus := X.minus
    have m_times := X.times
    have m_by := X.by_
    have T := X.T
    refine ⟨_, (pss_cons (ps_expr (pe_c c_must_agree (hr.mono (by omega)) (pa_cons (pe_tup (pa_cons (pv 0) (pa_cons (pv 1) pa_nil))) pa_nil)))
      (pss_cons (ps_set (i := 2) sc_lines_meet.nd rfl (by first | exact Or.inl rfl | exact Or.inr rfl) (pe_c c_cross (hr.mono (by omega)) (pa_cons (pe_slice sl_tup (pv 0) po_none (po_some pe_int)) (pa_cons (pe_slice sl_tup (pv 1) po_none (po_some pe_int)) pa_nil))))
      (pss_cons (ps_if (pt_cmpR op_eq (pe_mt0 m_sign_of T.cl (hr.mono (by omega)) (pv 2)) pe_int (by first | exact nomark _ | rfl)) (pss_one (ps_ret pe_non)) pss_nil)
      (pss_cons (ps_set (i := 3) sc_lines_meet.nd rfl (by first | exact Or.inl rfl | exact Or.inr rfl) (pe_mt m_minus T.cl (hr.mono (by omega)) (pe_mt m_times T.cl (hr.mono (by omega)) (pe_ix ix_tup (pv 0) pe_int (fun _ _ => rfl)) (pa_cons (pe_ix ix_tup (pv 1) pe_int (fun _ _ => rfl)) pa_nil)) (pa_cons (pe_mt m_times T.cl (hr.mono (by omega)) (pe_ix ix_tup (pv 1) pe_int (fun _ _ => rfl)) (pa_cons (pe_ix ix_tup (pv 0) pe_int (fun _ _ => rfl)) pa_nil)) pa_nil)))
      (pss_cons (ps_set (i := 4) sc_lines_meet.nd rfl (by first | exact Or.inl rfl | exact Or.inr rfl) (pe_mt m_minus T.cl (hr.mono (by omega)) (pe_mt m_times T.cl (hr.mono (by omega)) (pe_ix ix_tup (pv 0) pe_int (fun _ _ => rfl)) (pa_cons (pe_ix ix_tup (pv 1) pe_int (fun _ _ => rfl)) pa_nil)) (pa_cons (pe_mt m_times T.cl (hr.mono (by omega)) (pe_ix ix_tup (pv 1) pe_int (fun _ _ => rfl)) (pa_cons (pe_ix ix_tup (pv 0) pe_int (fun _ _ => rfl)) pa_nil)) pa_nil)))
      (pss_one (ps_ret (pe_tup (pa_cons (pe_mt m_by T.cl (hr.mono (by omega)) (pv 3) (pa_cons (pv 2) pa_nil)) (pa_cons (pe_mt m_by T.cl (hr.mono (by omega)) (pv 4) (pa_cons (pv 2) pa_nil)) pa_nil)))))))))), ?_⟩
    refine (eg_agree (i := 0) (j := 1) rfl rfl (rl_ln hl) (rl_ln hm)).run fun _ H1 s1 _ => ?_
    refine (eg_dot (eg_dir rfl (mo_ln _ _ _ s1 hl)) (eg_dir rfl (mo_ln _ _ _ s1 hm)) zl.dir zm.dir (by omega)).run fun v2 H2 s2 h2 => ?_
    have zb := zl.dir.crs zm.dir
    refine (eg_sign (eg_var rfl mo_num h2)).run fun v3 H3 s3 h3 => ?_
    obtain rfl : v3 = .int (sgn (crsP (dirL l) (dirL m)).num) := h3
    refine ⟨rfl, _, rfl, ?_⟩
    have s13 := (s1.trans s2).trans s3
    by_cases c0 : crsP (dirL l) (dirL m) = 0
    · refine yes (by rw [c0]; rfl) ?_
      exact kn c0 H3 s13
    · refine no (by simpa using sgn_ne c0) ?_
      have c1 : CAdd n n := by show n + n + 1 ≤ 4000000; omega
      have c2 : CAdd (n + n) (n + n) := by show n + n + (n + n) + 1 ≤ 4000000; omega
      have hl3 := mo_ln _ _ _ s13 hl
      have hm3 := mo_ln _ _ _ s13 hm
      refine (eg_minus (eg_times (eg_lc rfl hl3) (eg_lb rfl hm3) zl.2.2 zm.2.1 c1) (eg_times (eg_lc rfl hm3) (eg_lb rfl hl3) zm.2.2 zl.2.1 c1) (zl.2.2.mul zm.2.1) (zm.2.2.mul zl.2.1) c2).run fun v4 H4 s4 h4 => ?_
      refine (eg_minus (eg_times (eg_la rfl (mo_ln _ _ _ s4 hl3)) (eg_lc rfl (mo_ln _ _ _ s4 hm3)) zl.1 zm.2.2 c1) (eg_times (eg_la rfl (mo_ln _ _ _ s4 hm3)) (eg_lc rfl (mo_ln _ _ _ s4 hl3)) zm.1 zl.2.2 c1) (zl.1.mul zm.2.2) (zm.1.mul zl.2.2) c2).run fun v5 H5 s5 h5 => ?_
      have zx : Sm (n + n + (n + n) + 1) (meetX l m) := (zl.2.2.mul zm.2.1).sub (zm.2.2.mul zl.2.1)
      have zy : Sm (n + n + (n + n) + 1) (meetY l m) := (zl.1.mul zm.2.2).sub (zm.1.mul zl.2.2)
      have cb : CBy (n + n + (n + n) + 1) (n + n + (n + n) + 1) := by show n + n + (n + n) + 1 + 3 * (n + n + (n + n) + 1) + 1 ≤ 4000000; omega
      have h25 := h2.ext ((s3.trans s4).trans s5)
      exact (eg_pt (eg_by (q := meetX l m) (eg_var rfl mo_num (h4.ext s5)) (eg_var rfl mo_num h25) zx zb cb c0) (eg_by (q := meetY l m) (eg_var rfl mo_num h5) (eg_var rfl mo_num h25) zy zb cb c0)).run fun x H6 s6 h6 => kq c0 x H6 (((s13.trans s4).trans s5).trans s6) h6
end
end Ph
set_option linter.all false
set_option maxRecDepth 100000
set_option maxHeartbeats 40000000
set_option exponentiation.threshold 500
namespace Ph
open PySem PySem.Spec PyProof.Rows L2
section
variable {P : Program} {w : World} {K : PySem.W.Frag} {mg : Str → Option Value} {base : Heap} {CE CN : Addr}
abbrev s_middle_of : Stmt := top 38
theorem sc_middle_of : FnScope ["p", "q"] ["p", "q"] (defScope s_middle_of) := ⟨rfl, rfl, rfl, by decide +kernel, rfl, by decide +kernel, by decide +kernel⟩
def midP (p q : P2) : P2 := goneP p (wayB p q) (Rat.divInt 1 2)
theorem sm_half : Sm 2 (Rat.divInt 1 2) := sm_of (by decide) (by decide) (by decide)
def spMid (CE : Addr) : Sp := fun vs H Q _ => ∃ (v u : V) (p q : P2) (n : Nat), vs = [v, u] ∧ PtA CE p H v ∧ PtA CE q H u ∧ SmP n p ∧ SmP n q ∧ 3 * n + 4 ≤ 4000000 ∧ ∀ x H', Same H H' → PtA CE (midP p q) H' x → Q x H'
theorem ok_middle_of (X : Mts P w K mg base CE) (c_must_agree : Cal P w K mg base CX0 40 "must_agree" ["things"] (spAgree CE)) (c_gone : Cal P w K mg base CX0 40 "gone" ["p", "way", "often"] (spGone CE)) (c_way_between : Cal P w K mg base CX0 41 "way_between" ["p", "q"] (spWay CE))
    (F : FnAt K mg "middle_of" s_middle_of) : Cal P w K mg base CX0 42 "middle_of" ["p", "q"] (spMid CE) := by
  refine Cal.of0 F sc_middle_of (fun _ _ _ _ _ _ us hl => match us, hl with | [_, _], _ => rfl) (fun vs H Q E h => ?_) (fun f cdv A outer s H vs Q E hr h => ?_)
  · obtain ⟨v, u, p, q, n, rfl, _⟩ := h
    rfl
  · obtain ⟨v, u, p, q, n, rfl, hp, hq, zp, zq, hc, k⟩ := h
    have T := X.T
    have M := X.M
    refine ⟨_, (pss_cons (ps_expr (pe_c c_must_agree (hr.mono (by omega)) (pa_cons (pe_tup (pa_cons (pv 0) (pa_cons (pv 1) pa_nil))) pa_nil)))
      (pss_one (ps_ret (pe_c c_gone (hr.mono (by omega)) (pa_cons (pv 0) (pa_cons (pe_c c_way_between (hr.mono (by omega)) (pa_cons (pv 0) (pa_cons (pv 1) pa_nil))) (pa_cons (pe_e2 M T (hr.mono (by omega)) (pa_cons pe_int (pa_cons pe_int pa_nil))) pa_nil))))))), ?_⟩
    refine (eg_agree (i := 0) (j := 1) rfl rfl (rl_pt hp) (rl_pt hq)).run fun _ H1 s1 _ => ?_
    have p1 := mo_pt _ _ _ s1 hp
    exact (eg_gone (eg_var rfl mo_pt p1) (eg_way (eg_var rfl mo_pt p1) (eg_var rfl mo_pt (mo_pt _ _ _ s1 hq)) zp zq (by omega)) (eg_e2 i4_1 (i4_of (by decide)) (by decide)) zp (zp.way zq) sm_half (by omega)).run fun x H2 s2 h2 => k x H2 (s1.trans s2) h2
/-! ### foot, mirror -/
def footP (p : P2) (l : L3) : P2 := goneP p (dirL l) (farL p l)
def mirP (p : P2) (l : L3) : P2 := goneP p (dirL l) (farL p l * 2)
def spFoot (CE : Addr) (g : P2 → L3 → P2) : Sp := fun vs H Q _ => ∃ (v u : V) (p : P2) (l : L3) (n m : Nat), vs = [v, u] ∧ PtA CE p H v ∧ LnA CE l H u ∧ SmP n p ∧ SmL m l ∧ 3 * n + 16 * m + 12 ≤ 4000000 ∧ lineOk l ∧ ∀ x H', Same H H' → PtA CE (g p l) H' x → Q x H'
theorem eg_foot {g : P2 → L3 → P2} {σ : L2.St} {H : Hp} {ta tb : TE} {p : P2} {l : L3} {n m : Nat} {E : XK} (ea : EG (PtA CE p) ta σ H) (eb : EG (LnA CE l) tb σ H) (zp : SmP n p) (zl : SmL m l) (hc : 3 * n + 16 * m + 12 ≤ 4000000) (ok : lineOk l) :
    EG (PtA CE (g p l)) (tCall (spFoot CE g) [] E (tCons ta (tCons tb tNil))) σ H :=
  eg_f2 (A := PtA CE p) (B := LnA CE l) (fun v u H1 Q a b k => ⟨v, u, p, l, n, m, rfl, a, b, zp, zl, hc, ok, k⟩) mo_pt ea eb
abbrev s_foot_of : Stmt := top 40
theorem sc_foot_of : FnScope ["p", "line"] ["p", "line"] (defScope s_foot_of) := ⟨rfl, rfl, rfl, by decide +kernel, rfl, by decide +kernel, by decide +kernel⟩
theorem ok_foot_of (c_must_agree : Cal P w K mg base CX0 40 "must_agree" ["things"] (spAgree CE)) (c_gone : Cal P w K mg base CX0 40 "gone" ["p", "way", "often"] (spGone CE)) (c_far_from : Cal P w K mg base CX0 41 "far_from" ["p", "line"] (spFar CE))
    (F : FnAt K mg "foot_of" s_foot_of) : Cal P w K mg base CX0 42 "foot_of" ["p", "line"] (spFoot CE footP) := by
  refine Cal.of0 F sc_foot_of (fun _ _ _ _ _ _ us hl => match us, hl with | [_, _], _ => rfl) (fun vs H Q E h => ?_) (fun f cdv A outer s H vs Q E hr h => ?_)
  · obtain ⟨v, u, p, l, n, m, rfl, _⟩ := h
    rfl
  · obtain ⟨v, u, p, l, n, m, rfl, hp, hl, zp, zl, hc, ok, k⟩ := h
    refine ⟨_, (pss_cons (ps_expr (pe_c c_must_agree (hr.mono (by omega)) (pa_cons (pe_tup (pa_cons (pv 0) (pa_cons (pv 1) pa_nil))) pa_nil)))
      (pss_one (ps_ret (pe_c c_gone (hr.mono (by omega)) (pa_cons (pv 0) (pa_cons (pe_slice sl_tup (pv 1) po_none (po_some pe_int)) (pa_cons (pe_c c_far_from (hr.mono (by omega)) (pa_cons (pv 0) (pa_cons (pv 1) pa_nil))) pa_nil))))))), ?_⟩
    refine (eg_agree (i := 0) (j := 1) rfl rfl (rl_pt hp) (rl_ln hl)).run fun _ H1 s1 _ => ?_
    have p1 := mo_pt _ _ _ s1 hp
    have l1 := mo_ln _ _ _ s1 hl
    exact (eg_gone (eg_var rfl mo_pt p1) (eg_dir rfl l1) (eg_far (eg_var rfl mo_pt p1) (eg_var rfl mo_ln l1) zp zl (by omega) ok) zp zl.dir (zp.far zl) (by omega)).run fun x H2 s2 h2 => k x H2 (s1.trans s2) h2
abbrev s_mirror_of : Stmt := top 41
theorem sc_mirror_of : FnScope ["p", "line"] ["p", "line"] (defScope s_mirror_of) := ⟨rfl, rfl, rfl, by decide +kernel, rfl, by decide +kernel, by decide +kernel⟩
theorem sm_two : Sm 2 ((2 : Int) : Rat) := sm_int (by decide) (by decide)
theorem ok_mirror_of (X : Mts P w K mg base CE) (c_must_agree : Cal P w K mg base CX0 40 "must_agree" ["things"] (spAgree CE)) (c_gone : Cal P w K mg base CX0 40 "gone" ["p", "way", "often"] (spGone CE)) (c_far_from : Cal P w K mg base CX0 41 "far_from" ["p", "line"] (spFar CE))
    (F : FnAt K mg "mirror_of" s_mirror_of) : Cal P w K mg base CX0 42 "mirror_of" ["p", "line"] (spFoot CE mirP) := by
  refine Cal.of0 F sc_mirror_of (fun _ _ _ _ _ _ us hl => match us, hl with | [_, _], _ => rfl) (fun vs H Q E h => ?_) (fun f cdv A outer s H vs Q E hr h => ?_)
  · obtain ⟨v, u, p, l, n, m, rfl, _⟩ := h
    rfl
  · obtain ⟨v, u, p, l, n, m, rfl, hp, hl, zp, zl, hc, ok, k⟩ := h
    have m_times := X.times
    have T := X.T
    have M := X.M
    refine ⟨_, (pss_cons (ps_expr (pe_c c_must_agree (hr.mono (by omega)) (pa_cons (pe_tup (pa_cons (pv 0) (pa_cons (pv 1) pa_nil))) pa_nil)))
      (pss_one (ps_ret (pe_c c_gone (hr.mono (by omega)) (pa_cons (pv 0) (pa_cons (pe_slice sl_tup (pv 1) po_none (po_some pe_int)) (pa_cons (pe_mt m_times T.cl (hr.mono (by omega)) (pe_c c_far_from (hr.mono (by omega)) (pa_cons (pv 0) (pa_cons (pv 1) pa_nil))) (pa_cons (pe_e1 M T (hr.mono (by omega)) (pa_cons pe_int pa_nil)) pa_nil)) pa_nil))))))), ?_⟩
    refine (eg_agree (i := 0) (j := 1) rfl rfl (rl_pt hp) (rl_ln hl)).run fun _ H1 s1 _ => ?_
    have p1 := mo_pt _ _ _ s1 hp
    have l1 := mo_ln _ _ _ s1 hl
    have zf := zp.far zl
    exact (eg_gone (eg_var rfl mo_pt p1) (eg_dir rfl l1) (eg_times (eg_far (eg_var rfl mo_pt p1) (eg_var rfl mo_ln l1) zp zl (by omega) ok) (eg_e1 (i4_of (by decide))) zf sm_two (by show 2 * n + 7 * m + 3 + 2 + 1 ≤ 4000000; omega)) zp zl.dir (zf.mul sm_two) (by omega)).run fun x H2 s2 h2 => k x H2 (s1.trans s2) h2
/-! ### turned -/
def leftN : Nat → P2 → P2
  | 0, p => p
  | n + 1, p => leftP (leftN n p)
def turnP (p o : P2) (k : Nat) : P2 := goneP o (leftN k (wayB o p)) 1
theorem SmP.leftN {n : Nat} {p : P2} (h : SmP n p) : ∀ k : Nat, SmP (n + 2 * k) (leftN k p)
  | 0 => h
  | k + 1 => (h.leftN k).left.mono (by omega)
abbrev s_turned : Stmt := top 42
theorem sc_turned : FnScope ["p", "about", "many", "way", "turn"] ["p", "about", "many"] (defScope s_turned) := ⟨rfl, rfl, rfl, by decide +kernel, rfl, by decide +kernel, by decide +kernel⟩
def spTurned (CE : Addr) : Sp := fun vs H Q _ => ∃ (v u : V) (p o : P2) (k n : Nat), vs = [v, u, .int (k : Nat)] ∧ PtA CE p H v ∧ PtA CE o H u ∧ SmP n p ∧ SmP n o ∧ k ≤ 3 ∧ 3 * n + 14 ≤ 4000000 ∧ ∀ x H', Same H H' → PtA CE (turnP p o k) H' x → Q x H'
theorem ok_turned (B : Bl mg) (X : Mts P w K mg base CE) (c_must_agree : Cal P w K mg base CX0 40 "must_agree" ["things"] (spAgree CE)) (c_gone : Cal P w K mg base CX0 40 "gone" ["p", "way", "often"] (spGone CE)) (c_way_between : Cal P w K mg base CX0 41 "way_between" ["p", "q"] (spWay CE))
    (c_leftwards : Cal P w K mg base CX0 42 "leftwards" ["way"] (spLeft CE)) (F : FnAt K mg "turned" s_turned) : Cal P w K mg base CX0 43 "turned" ["p", "about", "many"] (spTurned CE) := by
  refine Cal.of0 F sc_turned (fun _ _ _ _ _ _ us hl => match us, hl with | [_, _, _], _ => rfl) (fun vs H Q E h => ?_) (fun f cdv A outer s H vs Q E hr h => ?_)
  · obtain ⟨v, u, p, o, m, n, rfl, _⟩ := h
    rfl
  · obtain ⟨v, u, p, o, m, n, rfl, hp, ho, zp, zo, hm, hc, k⟩ := h
    have T := X.T
    have M := X.M
    refine ⟨_, (pss_cons (ps_expr (pe_c c_must_agree (hr.mono (by omega)) (pa_cons (pe_tup (pa_cons (pv 0) (pa_cons (pv 1) pa_nil))) pa_nil)))
      (pss_cons (ps_set (i := 3) sc_turned.nd rfl (by first | exact Or.inl rfl | exact Or.inr rfl) (pe_c c_way_between (hr.mono (by omega)) (pa_cons (pv 1) (pa_cons (pv 0) pa_nil))))
      (pss_cons (ps_for PassesOwn.never rfl (pi_range1 rfl B.range (pa_cons (pv 2) pa_nil)) (pg_name (i := 4) sc_turned.nd rfl (by first | exact Or.inl rfl | exact Or.inr rfl)) (pss_one (ps_set (i := 3) sc_turned.nd rfl (by first | exact Or.inl rfl | exact Or.inr rfl) (pe_c c_leftwards (hr.mono (by omega)) (pa_cons (pv 3) pa_nil)))))
      (pss_one (ps_ret (pe_c c_gone (hr.mono (by omega)) (pa_cons (pv 1) (pa_cons (pv 3) (pa_cons (pe_e1 M T (hr.mono (by omega)) (pa_cons pe_int pa_nil)) pa_nil))))))))), ?_⟩
    refine (eg_agree (i := 0) (j := 1) rfl rfl (rl_pt hp) (rl_pt ho)).run fun _ H1 s1 _ => ?_
    have zw := zo.way zp
    refine (eg_way (eg_var rfl mo_pt (mo_pt _ _ _ s1 ho)) (eg_var rfl mo_pt (mo_pt _ _ _ s1 hp)) zo zp (by omega)).run fun v2 H2 s2 h2 => ?_
    refine ⟨_, rfl, (m : Int), rfl, by omega, by omega, ?_⟩
    rw [Int.toNat_natCast]
    refine for_range (lo := 0) (n := m) (fun i σ' H' => Same H H' ∧ ∃ (x : V) (y : Option V), σ' = [some v, some u, some (.int (m : Nat)), some x, y] ∧ PtA CE (leftN i (wayB o p)) H' x) ⟨s1.trans s2, v2, none, rfl, h2⟩ ?_ ?_
    · rintro i σ' H' hi ⟨s', x, y, rfl, hx⟩
      refine (eg_left (eg_var rfl mo_pt hx) (zw.leftN i) (by omega)).run fun x3 H3 s3 h3 => ?_
      exact ⟨s'.trans s3, x3, _, rfl, h3⟩
    · rintro σ' H' ⟨s', x, y, rfl, hx⟩
      exact (eg_gone (eg_var rfl mo_pt (mo_pt _ _ _ s' ho)) (eg_var rfl mo_pt hx) (eg_e1 i4_1) zo (zw.leftN m) (sm_int (k := 1) (n := 2) (by decide) (by decide)) (by omega)).run fun x3 H3 s3 h3 => k x3 H3 (s'.trans s3) h3
/-! ### circle_through, other_of -/
def circC (o p : P2) : P2 × Rat := (o, dotP (wayB o p) (wayB o p))
def spCirc (CE : Addr) : Sp := fun vs H Q _ => ∃ (v u : V) (o p : P2) (n : Nat), vs = [v, u] ∧ PtA CE o H v ∧ PtA CE p H u ∧ SmP n o ∧ SmP n p ∧ 8 * n + 5 ≤ 4000000 ∧
  (o ≠ p → ∀ x H', Same H H' → CiA CE (circC o p) H' x → Q x H') ∧ (o = p → ∀ H', Same H H' → Q .non H')
theorem sq0 {x y : Rat} (h : x * x + y * y = 0) : x = 0 ∧ y = 0 := by
  have h1 : 0 ≤ x * x := by
    rcases @Rat.le_total 0 x with z | z
    · exact Rat.mul_nonneg z z
    · have e : x * x = (-x) * (-x) := by grind
      rw [e]
      exact Rat.mul_nonneg (by grind) (by grind)
  have h2 : 0 ≤ y * y := by
    rcases @Rat.le_total 0 y with z | z
    · exact Rat.mul_nonneg z z
    · have e : y * y = (-y) * (-y) := by grind
      rw [e]
      exact Rat.mul_nonneg (by grind) (by grind)
  have e1 : x * x = 0 := by grind
  have e2 : y * y = 0 := by grind
  exact ⟨by rcases Rat.mul_eq_zero.mp e1 with z | z <;> exact z, by rcases Rat.mul_eq_zero.mp e2 with z | z <;> exact z⟩
theorem dot0 {w : P2} : dotP w w = 0 ↔ w.1 = 0 ∧ w.2 = 0 := by
  constructor
  · intro h
    exact sq0 h
  · intro ⟨a, b⟩
    unfold dotP
    rw [a, b]
    grind
abbrev s_circle_through : Stmt := top 57
theorem sc_circle_through : FnScope ["middle", "point", "way", "square"] ["middle", "point"] (defScope s_circle_through) := ⟨rfl, rfl, rfl, by decide +kernel, rfl, by decide +kernel, by decide +kernel⟩
theorem ok_circle_through (X : Mts P w K mg base CE) (c_way_between : Cal P w K mg base CX0 41 "way_between" ["p", "q"] (spWay CE)) (c_dot : Cal P w K mg base CX0 40 "dot" ["one", "other"] (spDot CE dotP)) (F : FnAt K mg "circle_through" s_circle_through) :
    Cal P w K mg base CX0 42 "circle_through" ["middle", "point"] (spCirc CE) := by
  refine Cal.of0 F sc_circle_through (fun _ _ _ _ _ _ us hl => match us, hl with | [_, _], _ => rfl) (fun vs H Q E h => ?_) (fun f cdv A outer s H vs Q E hr h => ?_)
  · obtain ⟨v, u, o, p, n, rfl, _⟩ := h
    rfl
  · obtain ⟨v, u, o, p, n, rfl, ho, hp, zo, zp, hc, kq, kn⟩ := h
    have m_sign_of := X.sign
    have T := X.T
    refine ⟨_, (pss_cons (ps_set (i := 2) sc_circle_through.nd rfl (by first | exact Or.inl rfl | exact Or.inr rfl) (pe_c c_way_between (hr.mono (by omega)) (pa_cons (pv 0) (pa_cons (pv 1) pa_nil))))
      (pss_cons (ps_set (i := 3) sc_circle_through.nd rfl (by first | exact Or.inl rfl | exact Or.inr rfl) (pe_c c_dot (hr.mono (by omega)) (pa_cons (pv 2) (pa_cons (pv 2) pa_nil))))
      (pss_one (ps_ret (pe_ifExp (pt_cmpR op_eq (pe_mt0 m_sign_of T.cl (hr.mono (by omega)) (pv 3)) pe_int (by first | exact nomark _ | rfl)) pe_non (pe_tup (pa_cons (pv 0) (pa_cons (pv 3) pa_nil)))))))), ?_⟩
    have zw := zo.way zp
    refine (eg_way (eg_var rfl mo_pt ho) (eg_var rfl mo_pt hp) zo zp (by omega)).run fun v2 H2 s2 h2 => ?_
    refine (eg_dot (eg_var rfl mo_pt h2) (eg_var rfl mo_pt h2) zw zw (by omega)).run fun v3 H3 s3 h3 => ?_
    refine (eg_sign (eg_var rfl mo_num h3)).run fun v4 H4 s4 h4 => ?_
    obtain rfl : v4 = .int (sgn (dotP (wayB o p) (wayB o p)).num) := h4
    refine ⟨rfl, _, rfl, ?_⟩
    have s24 := (s2.trans s3).trans s4
    by_cases e : o = p
    · have d0 : dotP (wayB o p) (wayB o p) = 0 := dot0.mpr (way0.mp e)
      refine yes (by rw [d0]; rfl) ?_
      exact kn e H4 s24
    · have d0 : dotP (wayB o p) (wayB o p) ≠ 0 := fun z => e (way0.mpr (dot0.mp z))
      refine no (by simpa using sgn_ne d0) ?_
      exact (eg_t2 mo_pt mo_num (eg_var rfl mo_pt (mo_pt _ _ _ s24 ho)) (eg_var rfl mo_num (h3.ext s4))).run fun x H5 s5 h5 => kq e x H5 (s24.trans s5) h5
def othP (l : L3) (o p : P2) : P2 := mirP p (uprightL o l)
theorem line_ok {p w : P2} (h : w.1 ≠ 0 ∨ w.2 ≠ 0) : lineOk (lineBy p w) ∧ ((lineBy p w).1 ≠ 0 ∨ (lineBy p w).2.1 ≠ 0) := by
  have e : (lineBy p w).1 ≠ 0 ∨ (lineBy p w).2.1 ≠ 0 := by
    unfold lineBy scaleL
    split
    · rename_i h1
      refine .inl ?_
      show w.1 / w.1 ≠ 0
      grind
    · rename_i h1
      refine .inr ?_
      show w.2 / w.2 ≠ 0
      grind
  refine ⟨fun z => ?_, e⟩
  obtain ⟨a, b⟩ := dot0.mp z
  rcases e with e | e
  · exact e a
  · exact e b
theorem SmL.scale {n m : Nat} {a b c : Rat} (ha : Sm n a) (hb : Sm n b) (hc : Sm m c) (hn : n ≤ m) : SmL (m + n) (scaleL a b c) := by
  unfold scaleL
  split
  · exact ⟨(ha.div ha).mono (by omega), (hb.div ha).mono (by omega), hc.div ha⟩
  · exact ⟨(ha.div hb).mono (by omega), (hb.div hb).mono (by omega), hc.div hb⟩
theorem SmP.line {n m : Nat} {p w : P2} (hp : SmP n p) (hw : SmP m w) : SmL (2 * n + 3 * m + 1) (lineBy p w) := (SmL.scale hw.1 hw.2 (hp.dot hw) (by omega)).mono (by omega)
abbrev s_other_of : Stmt := top 58
theorem sc_other_of : FnScope ["line", "circle", "point"] ["line", "circle", "point"] (defScope s_other_of) := ⟨rfl, rfl, rfl, by decide +kernel, rfl, by decide +kernel, by decide +kernel⟩
def spOther (CE : Addr) : Sp := fun vs H Q _ => ∃ (v1 v2 v3 : V) (l : L3) (c : P2 × Rat) (p : P2) (n : Nat), vs = [v1, v2, v3] ∧ LnA CE l H v1 ∧ CiA CE c H v2 ∧ PtA CE p H v3 ∧ SmL n l ∧ SmP n c.1 ∧ SmP n p ∧ 83 * n + 124 ≤ 4000000 ∧ (l.1 ≠ 0 ∨ l.2.1 ≠ 0) ∧ ∀ x H', Same H H' → PtA CE (othP l c.1 p) H' x → Q x H'
theorem ok_other_of (c_mirror_of : Cal P w K mg base CX0 42 "mirror_of" ["p", "line"] (spFoot CE mirP)) (c_line_upright : Cal P w K mg base CX0 43 "line_upright" ["p", "line"] (spLine CE uprightL)) (F : FnAt K mg "other_of" s_other_of) :
    Cal P w K mg base CX0 44 "other_of" ["line", "circle", "point"] (spOther CE) := by
  refine Cal.of0 F sc_other_of (fun _ _ _ _ _ _ us hl => match us, hl with | [_, _, _], _ => rfl) (fun vs H Q E h => ?_) (fun f cdv A outer s H vs Q E hr h => ?_)
  · obtain ⟨v1, v2, v3, l, c, p, n, rfl, _⟩ := h
    rfl
  · obtain ⟨v1, v2, v3, l, c, p, n, rfl, hl, ⟨a, x, y, rfl, ha, hx, hy⟩, hp, zl, zc, zp, hc, h0, k⟩ := h
    have zd := zl.dir.left
    have zu : SmL (5 * n + 7) (uprightL c.1 l) := (zc.line zd).mono (by omega)
    refine ⟨_, (pss_one (ps_ret (pe_c c_mirror_of (hr.mono (by omega)) (pa_cons (pv 2) (pa_cons (pe_c c_line_upright (hr.mono (by omega)) (pa_cons (pe_ix ix_tup (pv 1) pe_int (fun _ _ => rfl)) (pa_cons (pv 0) pa_nil))) pa_nil))))), ?_⟩
    exact (eg_foot (eg_var rfl mo_pt hp) (eg_line (eg_ixv (k := 0) rfl ha rfl mo_pt hx) (eg_var rfl mo_ln hl) zc zl (by omega) h0) zp zu (by omega) (line_ok (left0.mpr h0)).1).run k
end
end Ph
set_option linter.all false
set_option maxRecDepth 100000
set_option maxHeartbeats 4000000
namespace Ph
open PySem PySem.Spec PySem.Calls PyProof.Rows L2
/-! ### enumerate(tuple) -/
theorem meets_enumT {v : Value} {ob : Obj} {HP : Heap → Prop} (Bg : Begins v ob HP) :
    Meets (Builtin.«enumerate.__new__» ⟨[.type "enumerate", v], []⟩) (fun _ R s => HP s.heap ∧
      R (.ok (.ret (.ref (s.heap.push ob).objs.size))) { s with heap := (s.heap.push ob).push { cls := .type "enumerate", data := .fields #[.none, .bool false, .ref s.heap.objs.size, rawInt 0, .none, .none] } }) :=
  .of_wp fun pr wl Ar Rr st hh => by
    obtain ⟨hp, gs, dr, tk, os⟩ := st
    obtain ⟨h1, hh⟩ := hh
    have hsub := sub_enumerate
    have q1 : ∀ {A' : Around} {E : Value → Shared → Prop} {Q : Value → Shared → Prop}, Q (.ref hp.objs.size) ⟨hp.push ob, gs, dr, tk, os⟩ → wpAny (model pr wl) A' (pyIter v) Q E ⟨hp, gs, dr, tk, os⟩ := fun q => Bg.iter pr wl _ _ ⟨hp, gs, dr, tk, os⟩ _ h1 q
    wp_walk using q1
    refine wpAny_stack_any fun z => wpAny_pure ?_
    split
    · rename_i c _ _ _ _ _
      cases (c == Value.type "enumerate") <;> (wp_walk using q1; exact ⟨_, rfl, hh⟩)
    · wp_walk using q1
      exact ⟨_, rfl, hh⟩
section
variable {prog : Program} {w : World} {A : Around} {E : Value → Shared → Prop} {s : Shared}
theorem call_enumT {v : Value} {ob : Obj} {HP : Heap → Prop} {Q : Value → Shared → Prop} (Bg : Begins v ob HP) (h1 : HP s.heap)
    (k : ∀ h', IsEnum h' (s.heap.objs.size + 1) s.heap.objs.size 0 .none → h'.get? s.heap.objs.size = some ob → (∀ b o, s.heap.get? b = some o → h'.get? b = some o) → Q (.ref (s.heap.objs.size + 1)) { s with heap := h' }) :
    wpAny (model prog w) A (call (.type "enumerate") [v]) Q E s := by
  refine callType_new F.called_enumerate (by decide) (F.typeCall_enumerate_1 _) (F.newCall_enumerate_1 _) (fun obj => F.args_object_init_2 obj _) F.entry_enumerate_new (meets_enumT Bg) ⟨h1, ?_⟩
  have hz : (s.heap.push ob).objs.size = s.heap.objs.size + 1 := Heap.size_push ..
  show _ ∧ _
  rw [hz]
  have e1 := Heap.get?_push_size (s.heap.push ob) (o := { cls := .type "enumerate", data := .fields #[.none, .bool false, .ref s.heap.objs.size, rawInt 0, .none, .none] }) rfl
  rw [hz] at e1
  exact ⟨⟨_, e1, rfl⟩, k _ e1 (Heap.get?_push_of_some _ (Heap.get?_push_size _ Bg.free)) fun b o x => Heap.get?_push_of_some _ (Heap.get?_push_of_some _ x)⟩
end
/-- the tuple at a as it stands at each turn, each item in a new pair with its number -/
def ItE (K : PySem.W.Frag) (a : Addr) : It :=
  ⟨fun i H => ∃ (xs : List V) (x : V), SqT K H a xs ∧ xs[i]? = some x, fun i H v H' => ∃ T x, v = .ref T ∧ H T = none ∧ H' = upd H T (.tup [.int (i : Nat), x]) ∧ ∀ xs, SqT K H a xs → xs[i]? = some x, fun i H => ∃ xs : List V, SqT K H a xs ∧ xs.length = i⟩
theorem turn_enumT {P : Program} {w : World} {K : PySem.W.Frag} {elts : List Expr} {kk : Nat} {tpos : Pos} (a e it : Addr) (ha : a ≠ it) (hea : e ≠ a) :
    Turn P w K (.Tuple elts kk tpos) (ItE K a) [e, it] e (fun i h => (∃ old, IsEnum h e it ((i : Nat) : Int) old) ∧ h.IsTupleIter it a i ∧ e ≠ it) where
  mem := by simp
  obj := by
    rintro i h ⟨⟨old, he⟩, ⟨o, ho, hc, hd⟩, _⟩ b hb
    rcases (show b = e ∨ b = it by simpa using hb) with rfl | rfl
    · exact ⟨_, he, fun v q => nomatch q⟩
    · exact ⟨o, ho, fun v q => by rw [hd] at q; cases q⟩
  keep := by
    rintro i h h' ⟨⟨old, he⟩, hi, hne⟩ k
    exact ⟨⟨old, k e (by simp) _ he⟩, hi.at fun o q => k it (by simp) o q, hne⟩
  item := by
    intro X hP hw hK hc i pins s σ H E I hf st hg
    subst hP hw hK
    obtain ⟨⟨old, he⟩, hit, hne⟩ := st
    obtain ⟨xs, x, hq, hx⟩ := hg
    obtain ⟨its, rv, p, _⟩ := I.tuple hq
    obtain ⟨u, hu, ru⟩ := rv.get hx
    have lE : e < s.heap.objs.size := Heap.lt_size he
    have lI : it < s.heap.objs.size := let ⟨_, q, _⟩ := hit; Heap.lt_size q
    have lt : i < its.toArray.size := by
      have h1 := (List.getElem?_eq_some_iff.mp hu).1
      simpa using h1
    refine wpAny_pyNext_enum_itemD (Draws.tuple (A := X.A.in1) (I.ok.hd hc) it a ha its.toArray) he ⟨hit, show s.heap.IsTuple a its.toArray from p⟩ lt hne (by simp [hne, hea]) fun y h' tk hy ho hst hT hsz hk => ?_
    have ey : y = u := by
      have hy' : its[i]? = some y := by simpa using hy
      rw [hu] at hy'
      exact (Option.some.inj hy').symm
    subst ey
    refine ⟨_, rfl, wpAny_letOwnedTupleGo_enum (s := { s with heap := h', toks := tk + 1 }) ho fun h'' he' sb => ?_⟩
    have hT2 := (sb.2 _ (Nat.ne_of_gt lE)).trans hT
    have I1 : Inv X pins σ (upd H s.heap.objs.size (.tup [.int (i : Nat), x])) { s with heap := h'', toks := tk + 1 } :=
      I.turnedNew (ch := [e, it]) (fun b ob hb q => (sb.2 b (fun z => hb (by simp [z]))).trans (hk b ob (fun z => hb (by simp [z])) (fun z => hb (by simp [z])) q)) hf (Nat.le_refl _) ⟨by show 2 ≤ sizeLine; decide, [.int i tk, y], .cons ⟨_, rfl⟩ (.cons ru .nil), ⟨_, hT2, rfl, _, rfl⟩⟩
    refine ⟨.ref s.heap.objs.size, _, I1, rfl, ⟨_, x, rfl, I.hok.fresh (Nat.le_refl _), rfl, fun ys hy => by rw [I.tuple_inj hy hq]; exact hx⟩, ⟨⟨y, ?_⟩, hst.1.at fun o q => (sb.2 it (Ne.symm hne)).trans q, hne⟩, fun b hb => ?_⟩
    · rw [show ((i + 1 : Nat) : Int) = (i : Int) + 1 by omega]
      exact he'
    · have hb' : b < s.heap.objs.size := by
        rcases (show b = e ∨ b = it by simpa using hb) with z | z
        · rw [z]
          exact lE
        · rw [z]
          exact lI
      rw [upd_ne (Nat.ne_of_lt hb')]
      exact (hf b hb).1
  done := by
    intro X hP hw hK hc i pins s σ H E I hf st hg
    subst hP hw hK
    obtain ⟨⟨old, he⟩, hit, hne⟩ := st
    obtain ⟨xs, hq, hx⟩ := hg
    obtain ⟨its, rv, p, _⟩ := I.tuple hq
    have hl := rv.length
    have hsz : i = its.toArray.size := by simp; omega
    obtain ⟨f0, f1, f2, f3, f4, f5⟩ := hf it (by simp)
    exact wpAny_pyNext_enum_endD (Draws.tuple (A := X.A.in1) (I.ok.hd hc) it a ha its.toArray) he ⟨hsz ▸ hit, show s.heap.IsTuple a its.toArray from p⟩ fun h' eb => ⟨rfl, I.turned (t' := s.toks) (fun b o hb q => eb b o hb q) f0 f1 f3 f4 f5⟩
  self := fun A i s Q E st h => let ⟨⟨_, he⟩, _⟩ := st; wpAny_pyIter_enum he h
def iEnumT (K : PySem.W.Frag) (ta : TA) : TI := fun σ H R => ta σ H fun vs H1 => ∃ a xs, vs = [.ref a] ∧ SqT K H1 a xs ∧ R (ItE K a) H1
theorem pi_enumT {X : Cx} {e : Expr} {ta : TA} {p pos tpos : Pos} {elts : List Expr} {kk : Nat} (hg : Gl X "enumerate") (hm : X.mg "enumerate" = none) (ha : PA X [e] ta) (hs : starEach [e] X.env = [(false, eval e X.env)] := by rfl) :
    PI X (.Tuple elts kk tpos) (.Call (.Name "enumerate" p) [e] [] pos) (iEnumT X.K ta) := by
  refine ⟨fun pins s σ H R I h => ?_⟩
  refine Call_ (ld_blt I hg hm boot_enumerate (PyProof.Rows.callWith_type1 (thn (ha.run pos pins s σ H _ I h) fun us s1 ⟨vs, H1, I1, r1, q1⟩ => ?_) hs rfl))
  obtain ⟨a, xs, ex, hq, q⟩ := q1
  subst ex
  cases r1 with
  | cons r rr =>
    cases rr
    cases r
    obtain ⟨its, rv, p', _⟩ := I1.tuple hq
    have p2 : s1.heap.IsTuple a its.toArray := p'
    have la : a < s1.heap.objs.size := let ⟨_, q, _⟩ := id p2; Heap.lt_size q
    refine call_enumT (begins_tuple a its.toArray) p2 fun h' he hit hk => wpAny_pyIter_enum he ?_
    have I2 : Inv X pins σ H1 { s1 with heap := h' } := I1.kept (t' := s1.toks) hk
    refine ⟨s1.heap.objs.size + 1, [s1.heap.objs.size + 1, s1.heap.objs.size], _, _, H1, rfl, I2, turn_enumT a (s1.heap.objs.size + 1) s1.heap.objs.size (Nat.ne_of_lt la) (Nat.ne_of_gt (Nat.lt_succ_of_lt la)), ⟨⟨.none, he⟩, ⟨_, hit, rfl, rfl⟩, Nat.succ_ne_self _⟩, fun b hb => ?_, q⟩
    have e' : b = s1.heap.objs.size + 1 ∨ b = s1.heap.objs.size := by simpa using hb
    have hle : s1.heap.objs.size ≤ b := by
      rcases e' with z | z
      · rw [z]; exact Nat.le_add_right _ _
      · rw [z]; exact Nat.le_refl _
    exact I1.fpOk hle (I1.hok.fresh hle)
theorem walk_enumT {K : PySem.W.Frag} {a : Addr} {xs : List V} : Walk (ItE K a) xs.length (fun H => SqT K H a xs) (YPair (fun i => some (.int (i : Nat))) (fun i => xs[i]?)) := by
  refine ⟨fun i _ hi q => ⟨xs, xs[i], q, by simp [hi]⟩, fun _ q => ⟨xs, q, rfl⟩, fun i H v H' _ q y => ?_⟩
  obtain ⟨T, x, h1, h2, h3, h4⟩ := y
  exact ⟨T, .int (i : Nat), x, h1, h2, h3, rfl, h4 xs q⟩
end Ph
set_option linter.all false
set_option maxRecDepth 100000
set_option maxHeartbeats 40000000
set_option exponentiation.threshold 500
namespace Ph
open PySem PySem.Spec PyProof.Rows L2
/-! ### x = {k: v for ..} -/
section
variable {X : Cx}
theorem sw_trueD {kx vx : Expr} {gs : List Comprehension} {scope : Scope} {pos py : Pos} {y : Str} {l : Nat} {env : Env} (hk : env.scope.kind = .function) (hy : env.scope.names.lookup y = some .local) (hl : (py.line == pos.line) = true)
    (ha : (scope.names.any fun (n, k) => n == y && (k == .local || k == .cell)) = false) : swapsWith (.DictComp kx vx gs scope pos) (some (.Name y py)) l env = pure true := by
  have k1 : env.kindOf y = some .local := hy
  have k2 : env.blockKind = .function := by
    unfold Env.blockKind
    rw [hk]
    rfl
  unfold swapsWith
  simp only [k2, k1, ha, Expr.pos, hl]
  rfl
theorem ps_setDc {i : Nat} {y : Str} {py : Pos} {kx vx tg iter : Expr} {ifs : List Expr} {scope : Scope} {own : List (Str × Nat)} {pos spos : Pos} {wi : TI} {g : TG} {tt : TT} {tk tv : TE} (hc : X.calm = true) (hN : X.N.Nodup) (hy : X.N[i]? = some y) (hyl : X.env.scope.names.lookup y = some .local)
    (hsw : swapsWith (.DictComp kx vx [⟨tg, iter, ifs, 0⟩] scope pos) (some (.Name y py)) spos.line X.env = pure true) (hi : PI X tg iter wi) (ok : BlkOk X.N X.env.scope scope own)
    (hg : ∀ (s : Shared) (H : Hp) (C : Addr) (cl : List (Str × Addr)) (fp : List Addr), PG (X.blk s H scope (compEnvC scope cl C X.env) fp) tg g) (ht : ∀ (s : Shared) (H : Hp) (C : Addr) (cl : List (Str × Addr)) (fp : List Addr), PTs (X.blk s H scope (compEnvC scope cl C X.env) fp) ifs tt)
    (hk : ∀ (s : Shared) (H : Hp) (C : Addr) (cl : List (Str × Addr)) (fp : List Addr), PE (X.blk s H scope (compEnvC scope cl C X.env) fp) kx tk)
    (he : ∀ (s : Shared) (H : Hp) (C : Addr) (cl : List (Str × Addr)) (fp : List Addr), PE (X.blk s H scope (compEnvC scope cl C X.env) fp) vx tv) (hs : ∀ x, foldedSetIterable iter X.env x = pure x := by intro _; rfl) :
    PS X (.Assign [.Name y py] (.DictComp kx vx [⟨tg, iter, ifs, 0⟩] scope pos) spos) (tAsg (tDc wi g tt tk tv (own.map (·.2))) (gName i)) := by
  refine ⟨fun pins s σ H D I h => ?_⟩
  rw [exec_Assign_Name_used _ _ _ _ hsw]
  refine wpAny_bind (wpAny_standAt (wpAny_bind ?_))
  show wpAny _ X.A (do let _ ← comprehension (.DictComp kx vx [⟨tg, iter, ifs, 0⟩] scope pos) scope X.env (firstIterPos [⟨tg, iter, ifs, 0⟩] pos) newDict false (eval iter X.env) (some (assign (.Name y py) X.env))) _ _ s
  have h : tDc wi g tt tk tv (own.map (·.2)) σ H (fun x H1 => gName i x σ H1 D.nx) := h
  refine wpAny_bind (thn (dc_core (Qf := fun _ s' => SP X pins D .next s') hc hN I hi ok hg ht hk he hs h fun L C s' m H' I' q hn f => ?_) fun _ s' hq => wpAny_pure (wpAny_pure hq))
  show wpAny _ _ (assign (.Name y py) X.env (.ref L)) _ _ _
  refine wpAny_assign_Name (store_ok2 (v := V.ref L) I' hN hy (.inl hyl) rfl (fun s2 I2 ⟨a, sb, ha⟩ => ?_) (.inr hyl))
  obtain ⟨f0, f1, f2, f3, f4, f5⟩ := f
  have ne : C ≠ a := ha.elim (fun z => z ▸ f1) fun z e => f4 y a z e.symm
  exact ⟨m, hn.sameBut sb ne, fun h3 sb3 => ⟨_, H', I2.turned (t' := s2.toks) (fun b o hb e => (sb3.2 b hb).trans e) f0 f1 f3 f4 f5, q⟩⟩
/-- a dict comprehension over a walk -/
theorem dc_it {J : It} {n : Nat} {G : Hp → Prop} {Y : Nat → Hp → V → Hp → Prop} (w : Walk J n G Y) {g : TG} {tt : TT} {tk tv : TE} {vs : List Nat} {σ : L2.St} {H1 : Hp} {D : Addr} {Qd : Hp → Prop} (Pv : Nat → Hp → Prop) (h0 : Pv 0 (upd H1 D (.dK []))) (hG : ∀ i H, i ≤ n → Pv i H → G H)
    (hs : ∀ i x H H', i < n → Pv i H → Y i H x H' → g x (wipe σ vs) H' fun σ2 H2 => wipe σ2 vs = wipe σ vs ∧ tt σ2 H2 fun b H3 =>
      if b = true then tk σ2 H3 fun y H4 => tv σ2 H4 fun z H5 => ∃ kvs k, y = kV k ∧ H5 D = some (.dK kvs) ∧ kvs.length < sizeLine ∧ Pv (i + 1) (upd H5 D (.dK (putK kvs k z))) else Pv (i + 1) H3) (hd : ∀ H, Pv n H → Qd H) :
    ∃ W : Nat → Nat → Hp → Prop, (∃ m, W 0 m (upd H1 D (.dK []))) ∧ ∀ i m H, W i m H →
      (J.stop i H ∧ Qd H) ∨ (J.go i H ∧ ∃ Nx : Hp → Prop, (∀ H', Nx H' → ∃ m', m' < m ∧ W (i + 1) m' H') ∧ ∀ x H', J.yld i H x H' → g x (wipe σ vs) H' fun σ2 H2 => wipe σ2 vs = wipe σ vs ∧ tt σ2 H2 fun b H3 =>
        if b = true then tk σ2 H3 fun y H4 => tv σ2 H4 fun z H5 => ∃ kvs k, y = kV k ∧ H5 D = some (.dK kvs) ∧ kvs.length < sizeLine ∧ Nx (upd H5 D (.dK (putK kvs k z))) else Nx H3) := by
  refine ⟨fun i m H => m = n - i ∧ i ≤ n ∧ Pv i H, ⟨n, rfl, Nat.zero_le _, h0⟩, ?_⟩
  rintro i m H ⟨rfl, hi, p⟩
  by_cases lt : i < n
  · exact .inr ⟨w.goes i H lt (hG i H hi p), Pv (i + 1), fun H' p' => ⟨n - (i + 1), by omega, rfl, lt, p'⟩, fun x H' y => hs i x H H' lt p (w.yields i H x H' lt (hG i H hi p) y)⟩
  · obtain rfl : i = n := by omega
    exact .inl ⟨w.stops H (hG _ H hi p), hd H p⟩
end
theorem same_put {H H' : Hp} {p : Addr} {o : HO} (s : Same H H') (n : H p = none) : Same H (upd H' p o) := fun b u e => by
  rw [upd_ne (ne_of_none e n)]
  exact s _ _ e
/-! ### plans -/
inductive Bn where
  | meet | middle | foot | mirror | line | along | upright | circle
  deriving DecidableEq
inductive Stp where
  | free
  | on (l : Str)
  | round (c : Str)
  | turn (p q : Str) (k : Nat)
  | other (l c p : Str)
  | two (b : Bn) (x y : Str)
  deriving DecidableEq
def Bn.word : Bn → Str
  | .meet => "meet" | .middle => "middle" | .foot => "foot" | .mirror => "mirror" | .line => "line" | .along => "along" | .upright => "upright" | .circle => "circle"
def Stp.word : Stp → Str
  | .free => "free" | .on _ => "on" | .round _ => "round" | .turn .. => "turn" | .other .. => "other" | .two b _ _ => b.word
/-- the names that a step names -/
def Stp.of : Stp → List Str
  | .free => [] | .on l => [l] | .round c => [c] | .turn p q _ => [p, q] | .other l c p => [l, c, p] | .two _ x y => [x, y]
def Stp.num : Stp → List Int
  | .turn _ _ k => [(k : Int)]
  | _ => []
def Stp.rest (s : Stp) : List V := s.of.map V.str ++ s.num.map V.int
abbrev Pl := List (Str × Stp)
def stV (s : Str × Stp) : List V := .str s.2.word :: .str s.1 :: s.2.rest
def StA (s : Str × Stp) : Ap := fun H v => ∃ a, v = .ref a ∧ H a = some (.tup (stV s))
theorem mo_st {s : Str × Stp} : Mo (StA s) := fun _ _ _ e ⟨a, h, k⟩ => ⟨a, h, e _ _ k⟩
/-- items of a sequence, told one by one -/
def Each {α : Type} (A : α → Ap) (xs : List α) (H : Hp) (vs : List V) : Prop := vs.length = xs.length ∧ ∀ (i : Nat) (x : α), xs[i]? = some x → ∃ v, vs[i]? = some v ∧ A x H v
theorem Each.same {α : Type} {A : α → Ap} {xs : List α} {H H' : Hp} {vs : List V} (mo : ∀ x, Mo (A x)) (e : Each A xs H vs) (s : Same H H') : Each A xs H' vs := ⟨e.1, fun i x h => let ⟨v, a, b⟩ := e.2 i x h; ⟨v, a, mo x _ _ _ s b⟩⟩
def TupOf {α : Type} (A : α → Ap) (xs : List α) : Ap := fun H v => ∃ a vs, v = .ref a ∧ H a = some (.tup vs) ∧ Each A xs H vs
theorem mo_tupOf {α : Type} {A : α → Ap} {xs : List α} (mo : ∀ x, Mo (A x)) : Mo (TupOf A xs) := fun _ _ _ s ⟨a, vs, h, k, e⟩ => ⟨a, vs, h, s _ _ k, e.same mo s⟩
def PlA (pl : Pl) : Ap := TupOf StA pl
theorem mo_pl {pl : Pl} : Mo (PlA pl) := mo_tupOf fun _ => mo_st
abbrev Pl.names (pl : Pl) : List Str := pl.map (·.1)
theorem atI_nat {xs : List V} {i : Nat} {v : V} (h : xs[i]? = some v) : atI xs (i : Int) = some v := by
  have lt := (List.getElem?_eq_some_iff.mp h).1
  unfold atI ixN
  rw [if_pos (by omega), if_pos (by omega)]
  exact h
section
variable {P : Program} {w : World} {K : PySem.W.Frag} {mg : Str → Option Value} {base : Heap} {CE CN : Addr}
abbrev s_step_at : Stmt := top 49
theorem sc_step_at : FnScope ["sketch", "name", "numbers", "number", "step"] ["sketch", "name"] (defScope s_step_at) := ⟨rfl, rfl, rfl, by decide +kernel, rfl, by decide +kernel, by decide +kernel⟩
def spStepAt : Sp := fun vs H Q _ => ∃ (v : V) (pl : Pl) (i : Nat) (x : Str) (s : Stp), vs = [v, .str x] ∧ PlA pl H v ∧ pl.length ≤ 100 ∧ pl.names.Nodup ∧ pl[i]? = some (x, s) ∧ ∀ H', Same H H' → Q (.int i) H'
/-- what a dict told by names holds -/
def DTells (pl : Pl) (n : Nat) (f : Nat → V) (kvs : List (Key × V)) : Prop := kvs.length ≤ n ∧ ∀ j s, j < n → pl[j]? = some s → valV kvs (.inr s.1) = some (f j)
theorem DTells.put {pl : Pl} {n : Nat} {f : Nat → V} {kvs : List (Key × V)} {s : Str × Stp} (d : DTells pl n f kvs) (hd : pl.names.Nodup) (h : pl[n]? = some s) : DTells pl (n + 1) f (putK kvs (.inr s.1) (f n)) := by
  refine ⟨Nat.le_trans (length_putK _ _ _) (Nat.succ_le_succ d.1), fun j t lt ht => ?_⟩
  rw [valV_put]
  by_cases e : j = n
  · subst e
    rw [h] at ht
    cases ht
    rw [if_pos rfl]
  · have ne : t.1 ≠ s.1 := fun z => e (by
      have h1 : (pl.map (·.1))[j]? = some t.1 := by simp [ht]
      have h2 : (pl.map (·.1))[n]? = some t.1 := by simp [h, z]
      have l1 : j < (pl.map (·.1)).length := (List.getElem?_eq_some_iff.mp h1).1
      exact (List.getElem?_inj l1 hd).mp (h1.trans h2.symm))
    rw [if_neg (fun z => ne (by injection z))]
    exact d.2 j t (by omega) ht
theorem ok_step_at (B : Bl mg) (F : FnAt K mg "step_at" s_step_at) : Cal P w K mg base CX0 1 "step_at" ["sketch", "name"] spStepAt := by
  refine Cal.of0 F sc_step_at (fun _ _ _ _ _ _ us hl => match us, hl with | [_, _], _ => rfl) (fun vs H Q E h => ?_) (fun f cdv A outer s H vs Q E hr h => ?_)
  · obtain ⟨v, pl, i, x, s, rfl, _⟩ := h
    rfl
  · obtain ⟨v, pl, i, x, st, rfl, hp, hl, hd, hi, k⟩ := h
    have hu : (A.deeper (envOfC "step_at" (defScope s_step_at) s.heap.objs.size f cdv)).units + 1 < cLine := by
      have := hr.un
      omega
    refine ⟨_, (pss_cons (ps_setDc (i := 2) (own := [("number", 3), ("step", 4)]) (g := gTup K 2 (gCons (gName 3) (gCons (gName 4) gNil))) (tk := tOp (rIxT K) (tVar 4) (tC (.int 1))) (by rfl) sc_step_at.nd rfl rfl (sw_trueD rfl rfl rfl (by decide +kernel)) (pi_enumT (by rfl) B.enumerate (pa_cons (pv 0) pa_nil)) (blkOk_by (own := [("number", 3), ("step", 4)]) (N := ["sketch", "name", "numbers", "number", "step"]) (sc := defScope s_step_at) (by decide +kernel))
        (fun _ _ _ _ _ => pg_tup rfl (pgs_cons (pg_name (i := 3) sc_step_at.nd rfl (by first | exact Or.inl rfl | exact Or.inr rfl)) (pgs_cons (pg_name (i := 4) sc_step_at.nd rfl (by first | exact Or.inl rfl | exact Or.inr rfl)) pgs_nil))) (fun _ _ _ _ _ => pts_nil) (fun _ _ _ _ _ => pe_ix ix_tup (pv 4) pe_int (fun _ _ => rfl)) (fun _ _ _ _ _ => pv 3))
      (pss_one (ps_ret (pe_dget1 hu (pv 2) (pv 1) ⟨by rfl, by rfl, by rfl, by rfl⟩)))), ?_⟩
    obtain ⟨a, ts, rfl, ha, he⟩ := id hp
    refine ⟨_, rfl, a, ts, rfl, SqT.of ha, fun D hD => ?_⟩
    refine dc_it walk_enumT (fun i H' => Same H H' ∧ ∃ kvs, H' D = some (.dK kvs) ∧ DTells pl i (fun j => .int (j : Nat)) kvs) ⟨same_new hD, [], upd_same, Nat.le_refl _, fun j s lt _ => by omega⟩ (fun i H' _ h => SqT.of (h.1 _ _ ha)) (fun i x' H1 H2 lt h y => ?_) fun H1 h => ?_
    · obtain ⟨s1, kvs, hk, dt⟩ := h
      obtain ⟨T, x, z, rfl, hT, rfl, e1, e2⟩ := y
      cases e1
      rw [he.1] at lt
      obtain ⟨t, g1, b, rfl, g2⟩ := he.2 i pl[i] (by simp [lt])
      obtain rfl : V.ref b = z := Option.some.inj (g1.symm.trans e2)
      refine ⟨T, _, rfl, SqT.of upd_same, rfl, _, _, rfl, _, _, rfl, rfl, rfl, ?_⟩
      have s2 := s1.trans (same_new (o := .tup [.int (i : Nat), .ref b]) hT)
      refine ⟨_, rfl, b, _, 1, .str pl[i].1, rfl, rfl, SqT.of (s2 _ _ g2), atI_nat (i := 1) rfl, ?_⟩
      refine ⟨_, rfl, kvs, .inr pl[i].1, rfl, same_new hT _ _ hk, ?_, same_put s2 hD, _, upd_same, dt.put hd (by simp [lt])⟩
      rw [sizeLine_eq]
      have := dt.1
      omega
    · obtain ⟨s1, kvs, hk, dt⟩ := h
      refine ⟨_, rfl, D, rfl, .inl ⟨_, .inl hk⟩, _, rfl, _, DGet.k (k := .inr x) hk, ?_⟩
      rw [he.1] at dt
      rw [dt.2 i (x, st) (List.getElem?_eq_some_iff.mp hi).1 hi]
      exact k _ s1
abbrev s_base_of : Stmt := top 50
theorem sc_base_of : FnScope ["sketch", "name"] ["sketch", "name"] (defScope s_base_of) := ⟨rfl, rfl, rfl, by decide +kernel, rfl, by decide +kernel, by decide +kernel⟩
def spBaseOf : Sp := fun vs H Q _ => ∃ (v : V) (pl : Pl) (i : Nat) (x : Str) (s : Stp) (y : Str), vs = [v, .str x] ∧ PlA pl H v ∧ pl.length ≤ 100 ∧ pl.names.Nodup ∧ pl[i]? = some (x, s) ∧ s.of[0]? = some y ∧ ∀ H', Same H H' → Q (.str y) H'
theorem ok_base_of (c_step_at : Cal P w K mg base CX0 1 "step_at" ["sketch", "name"] spStepAt) (F : FnAt K mg "base_of" s_base_of) : Cal P w K mg base CX0 2 "base_of" ["sketch", "name"] spBaseOf := by
  refine Cal.of0 F sc_base_of (fun _ _ _ _ _ _ us hl => match us, hl with | [_, _], _ => rfl) (fun vs H Q E h => ?_) (fun f cdv A outer s H vs Q E hr h => ?_)
  · obtain ⟨v, pl, i, x, s, y, rfl, _⟩ := h
    rfl
  · obtain ⟨v, pl, i, x, st, y, rfl, hp, hl, hd, hi, hy, k⟩ := h
    refine ⟨_, (pss_one (ps_ret (pe_ix ix_tup (pe_ix ix_tup (pv 0) (pe_c c_step_at (hr.mono (by omega)) (pa_cons (pv 0) (pa_cons (pv 1) pa_nil))) (fun _ _ => rfl)) pe_int (fun _ _ => rfl)))), ?_⟩
    refine ⟨_, rfl, _, rfl, _, rfl, v, pl, i, x, st, rfl, hp, hl, hd, hi, fun H1 s1 => ?_⟩
    obtain ⟨a, ts, rfl, ha, he⟩ := mo_pl _ _ _ s1 hp
    obtain ⟨t, g1, b, rfl, g2⟩ := he.2 i _ hi
    refine ⟨a, ts, i, _, rfl, rfl, SqT.of ha, atI_nat g1, b, _, 2, .str y, rfl, rfl, SqT.of g2, ?_, k _ s1⟩
    refine atI_nat (i := 2) ?_
    show (st.of.map V.str ++ st.num.map V.int)[0]? = _
    rw [List.getElem?_append_left (by simpa using (List.getElem?_eq_some_iff.mp hy).1)]
    simp [hy]
end
end Ph
set_option linter.all false
set_option maxRecDepth 100000
set_option maxHeartbeats 4000000
namespace Ph
open PySem PySem.Spec PySem.Calls PyProof.Rows L2
/-! ### zip(a, b, strict=True) of two tuples of one length -/
/-- a strict zip at z: its iterators in TI, its own tuple in TO -/
def ZipS (h : Heap) (z TI TO : Addr) (old : Value) : Prop := h.get? z = some { cls := .type "zip", data := .fields #[old, .bool false, .bool true, .ref TI, .ref TO] }
abbrev kwS : List (Str × Value) := [(Str.ofString "strict", .bool true)]
theorem zs_type (a b : Value) : checkTypeCall "zip" ⟨[a, b], kwS⟩ = pure () := by kernel_rfl
theorem zs_new (a b : Value) : checkBuiltinCall "zip.__new__" ⟨[.type "zip", a, b], kwS⟩ = pure () := by kernel_rfl
theorem zs_init (o a b : Value) : argsOk "object.__init__" ⟨[o, a, b], kwS⟩ := by
  unfold argsOk
  kernel_rfl
section
variable {prog : Program} {w : World} {A : Around} {E : Value → Shared → Prop} {s : Shared}
theorem draw_item {it l : Addr} {i : Nat} {xs : Array Value} {x : Value} {Q : Option Value → Shared → Prop} (hi : s.heap.IsTupleIter it l i) (hl : s.heap.IsTuple l xs) (hx : xs[i]? = some x)
    (q : ∀ h', h'.IsTupleIter it l (i + 1) → Heap.SameBut it s.heap h' → Q (some x) { s with heap := h' }) : wpAny (model prog w) A (Builtin.SmallTypes.nextOrEnd (.ref it)) Q E s := by
  unfold Builtin.SmallTypes.nextOrEnd
  exact wpAny_bind (wpAny_attempt (RZ.nextOf_tuple_item hi hl hx fun h' a b => wpAny_pure (q h' a b)))
theorem draw_end {it l : Addr} {i : Nat} {xs : Array Value} {Q : Option Value → Shared → Prop} (hh : A.handled = none) (hi : s.heap.IsTupleIter it l i) (hl : s.heap.IsTuple l xs) (hx : xs[i]? = none)
    (q : ∀ h', Heap.ExtBut it s.heap h' → Q none { s with heap := h' }) : wpAny (model prog w) A (Builtin.SmallTypes.nextOrEnd (.ref it)) Q E s := by
  unfold Builtin.SmallTypes.nextOrEnd
  refine wpAny_bind (wpAny_attempt (RZ.nextOf_tuple_end hh hi hl hx fun h' e a b => ?_))
  obtain ⟨o, h1, h2⟩ := b
  exact wpAny_bind (wpAny_isInstance (T := "StopIteration") (b := true) ⟨o, h1, h2⟩ isSubtype_stop (wpAny_pure (q h' a)))
theorem stop_any {α : Type} {Q : α → Shared → Prop} (hh : A.handled = none) (q : ∀ (h' : Heap) (e : Addr), (∀ c o, s.heap.get? c = some o → h'.get? c = some o) → (∃ o, h'.get? e = some o ∧ o.cls = .type "StopIteration") → E (.ref e) { s with heap := h' }) :
    wpAny (model prog w) A (Builtin.SmallTypes.stopIteration : Sem α) Q E s := by
  unfold Builtin.SmallTypes.stopIteration
  refine wpAny_bind ?_
  simp only [newExc, newTuple]
  refine wpAny_bind (wpAny_newObj_type (wpAny_bind (m := firstArgMember _ _) (wpAny_of_eq (a := Value.none) (by first | rfl | (simp only [firstArgMember]; rfl)) (wpAny_newObj_type ?_ (by size_fits)))) (by size_fits))
  simp only [raiseNew]
  refine wpAny_bind (wpAny_handled ?_)
  rw [hh]
  exact wpAny_bind (wpAny_pure (wpAny_throw (q _ _ (fun c o e => Heap.get?_push_of_some _ (Heap.get?_push_of_some _ e)) ⟨_, Heap.get?_push_size _ rfl, rfl⟩)))
theorem zs_item {z TI TO i1 i2 l1 l2 : Addr} {k : Nat} {xs ys : Array Value} {x y a b : Value} {Q : Value → Shared → Prop} (D : ZipApart z TI TO i1 i2 l1 l2) (hz : ZipS s.heap z TI TO .none) (hI : IsPair s.heap TI (.ref i1) (.ref i2)) (hO : IsPair s.heap TO a b)
    (h1 : s.heap.IsTupleIter i1 l1 k) (h2 : s.heap.IsTupleIter i2 l2 k) (hl1 : s.heap.IsTuple l1 xs) (hl2 : s.heap.IsTuple l2 ys) (hx : xs[k]? = some x) (hy : ys[k]? = some y)
    (q : ∀ h', ZipS h' z TI TO (rawInt s.heap.objs.size) → IsPair h' TO x y → h'.IsTupleIter i1 l1 (k + 1) → h'.IsTupleIter i2 l2 (k + 1) → IsPair h' s.heap.objs.size x y →
      (∀ c o, c ≠ z → c ≠ TO → c ≠ i1 → c ≠ i2 → s.heap.get? c = some o → h'.get? c = some o) → Q (.ref s.heap.objs.size) { s with heap := h' }) :
    wpAny (model prog w) A (Builtin.«zip.__next__» ⟨[.ref z], []⟩) (fun fin s' => ∃ v, fin = .done (.ret v) ∧ Q v s') E s := by
  show wpAny _ _ (field (.ref z) 2 >>= _) _ _ _
  refine wpAny_bind (wpAny_field hz rfl (x := .bool true) rfl ?_)
  show wpAny _ _ (field (.ref z) 3 >>= _) _ _ _
  refine wpAny_bind (wpAny_field hz rfl (x := .ref TI) rfl (wpAny_bind (wpAny_seqItems hI rfl ?_)))
  show wpAny _ _ (Builtin.SmallTypes.ownedTupleIsFree (.ref z) >>= _) _ _ _
  unfold Builtin.SmallTypes.ownedTupleIsFree
  refine wpAny_bind (wpAny_bind (wpAny_field hz rfl (x := .none) rfl (wpAny_pure ?_)))
  simp only [if_true]
  refine wpAny_bind (wpAny_rule (wpAny_bind (wpAny_field hz rfl (x := .ref TO) rfl (wpAny_bind (wpAny_setField_rec hz (by simp) fun g1 z1 b1 => ?_)))))
  have z1 : ZipS g1 z TI TO .ellipsis := z1
  refine wpAny_bind ?_
  simp only [List.zipIdx_cons, List.zipIdx_nil, List.forIn_cons, List.forIn_nil]
  refine wpAny_bind (wpAny_bind (wpAny_onRaise ?_))
  show wpAny _ _ (Builtin.SmallTypes.nextOrEnd (.ref i1)) _ _ _
  refine draw_item (h1.extBut b1.extBut D.i1z) (hl1.extBut b1.extBut D.l1z) hx fun g2 t2 b2 => ?_
  have o2 : IsPair g2 TO a b := b2.extBut _ _ D.TOi1 (b1.extBut _ _ D.TOz hO)
  refine wpAny_bind (wpAny_seqItems o2 rfl (wpAny_bind (wpAny_updateSeq_pair o2 fun g3 o3 b3 => ?_)))
  have o3 : IsPair g3 TO x b := o3
  refine wpAny_bind (wpAny_letGo (wpAny_pure (wpAny_bind (wpAny_bind (wpAny_onRaise ?_)))))
  show wpAny _ _ (Builtin.SmallTypes.nextOrEnd (.ref i2)) _ _ _
  refine draw_item (((h2.extBut b1.extBut D.i2z).extBut b2.extBut D.i12.symm).extBut b3.extBut D.TOi2.symm) (((hl2.extBut b1.extBut D.l2z).extBut b2.extBut D.l2i1).extBut b3.extBut D.l2TO) hy fun g4 t4 b4 => ?_
  have o4 : IsPair g4 TO x b := b4.extBut _ _ D.TOi2 o3
  refine wpAny_bind (wpAny_seqItems o4 rfl (wpAny_bind (wpAny_updateSeq_pair o4 fun g5 o5 b5 => ?_)))
  have o5 : IsPair g5 TO x y := o5
  refine wpAny_bind (wpAny_letGo (wpAny_pure (wpAny_pure (wpAny_bind (wpAny_seqItems o5 rfl (wpAny_bind (wpAny_newTuple ?_)))))))
  have ez : g5.objs.size = s.heap.objs.size := by rw [b5.1, b4.1, b3.1, b2.1, b1.1]
  have z5 : ZipS g5 z TI TO .ellipsis := b5.extBut _ _ D.TOz.symm (b4.extBut _ _ D.i2z.symm (b3.extBut _ _ D.TOz.symm (b2.extBut _ _ D.i1z.symm z1)))
  have k5 : ∀ c o, c ≠ z → c ≠ TO → c ≠ i1 → c ≠ i2 → s.heap.get? c = some o → g5.get? c = some o := fun c o c1 c2 c3 c4 e => b5.extBut _ _ c2 (b4.extBut _ _ c4 (b3.extBut _ _ c2 (b2.extBut _ _ c3 (b1.extBut _ _ c1 e))))
  have i5 : g5.IsTupleIter i1 l1 (k + 1) := ((t2.extBut b3.extBut D.TOi1.symm).extBut b4.extBut D.i12).extBut b5.extBut D.TOi1.symm
  have j5 : g5.IsTupleIter i2 l2 (k + 1) := t4.extBut b5.extBut D.TOi2.symm
  have lz : z < g5.objs.size := Heap.lt_size z5
  show wpAny _ _ (Builtin.SmallTypes.ownedTupleHandOut (.ref z) (.ref g5.objs.size) >>= _) _ _ _
  unfold Builtin.SmallTypes.ownedTupleHandOut
  have z6 : ZipS (g5.push { cls := .type "tuple", data := .seq #[x, y] }) z TI TO .ellipsis := Heap.get?_push_of_some _ z5
  refine wpAny_bind (wpAny_bind (wpAny_setField_rec z6 (by simp) fun g7 z7 b7 => ?_))
  have z7 : ZipS g7 z TI TO (rawInt g5.objs.size) := z7
  refine wpAny_setField_rec z7 (by simp) fun g8 z8 b8 => wpAny_pure ⟨_, rfl, ?_⟩
  have z8 : ZipS g8 z TI TO (rawInt g5.objs.size) := z8
  have up : ∀ c o, c ≠ z → g5.get? c = some o → g8.get? c = some o := fun c o c1 e => b8.extBut _ _ c1 (b7.extBut _ _ c1 (Heap.get?_push_of_some _ e))
  have nT : IsPair g8 g5.objs.size x y := b8.extBut _ _ (Nat.ne_of_gt lz) (b7.extBut _ _ (Nat.ne_of_gt lz) (Heap.get?_push_size _ rfl))
  show Q (.ref g5.objs.size) _
  rw [ez] at z8 nT ⊢
  exact q g8 z8 (up _ _ D.TOz o5) (i5.at fun o e => up _ o D.i1z e) (j5.at fun o e => up _ o D.i2z e) nT fun c o c1 c2 c3 c4 e => up c o c1 (k5 c o c1 c2 c3 c4 e)
theorem zs_end {z TI TO i1 i2 l1 l2 : Addr} {k : Nat} {xs ys : Array Value} {a b : Value} {Q : Fin → Shared → Prop} (hh : A.handled = none) (D : ZipApart z TI TO i1 i2 l1 l2) (hz : ZipS s.heap z TI TO .none) (hI : IsPair s.heap TI (.ref i1) (.ref i2)) (hO : IsPair s.heap TO a b)
    (h1 : s.heap.IsTupleIter i1 l1 k) (h2 : s.heap.IsTupleIter i2 l2 k) (hl1 : s.heap.IsTuple l1 xs) (hl2 : s.heap.IsTuple l2 ys) (hx : xs[k]? = none) (hy : ys[k]? = none)
    (q : ∀ h' e, (∀ c o, c ≠ z → c ≠ TO → c ≠ i1 → c ≠ i2 → s.heap.get? c = some o → h'.get? c = some o) → (∃ o, h'.get? e = some o ∧ o.cls = .type "StopIteration") → E (.ref e) { s with heap := h' }) :
    wpAny (model prog w) A (Builtin.«zip.__next__» ⟨[.ref z], []⟩) Q E s := by
  show wpAny _ _ (field (.ref z) 2 >>= _) _ _ _
  refine wpAny_bind (wpAny_field hz rfl (x := .bool true) rfl ?_)
  show wpAny _ _ (field (.ref z) 3 >>= _) _ _ _
  refine wpAny_bind (wpAny_field hz rfl (x := .ref TI) rfl (wpAny_bind (wpAny_seqItems hI rfl ?_)))
  show wpAny _ _ (Builtin.SmallTypes.ownedTupleIsFree (.ref z) >>= _) _ _ _
  unfold Builtin.SmallTypes.ownedTupleIsFree
  refine wpAny_bind (wpAny_bind (wpAny_field hz rfl (x := .none) rfl (wpAny_pure ?_)))
  simp only [if_true]
  refine wpAny_bind (wpAny_rule (wpAny_bind (wpAny_field hz rfl (x := .ref TO) rfl (wpAny_bind (wpAny_setField_rec hz (by simp) fun g1 z1 b1 => ?_)))))
  have z1 : ZipS g1 z TI TO .ellipsis := z1
  refine wpAny_bind ?_
  simp only [List.zipIdx_cons, List.zipIdx_nil, List.forIn_cons, List.forIn_nil]
  refine wpAny_bind (wpAny_bind (wpAny_onRaise ?_))
  show wpAny _ _ (Builtin.SmallTypes.nextOrEnd (.ref i1)) _ _ _
  refine draw_end hh (h1.extBut b1.extBut D.i1z) (hl1.extBut b1.extBut D.l1z) hx fun g2 b2 => ?_
  have z2 : ZipS g2 z TI TO .ellipsis := b2 _ _ D.i1z.symm z1
  refine wpAny_bind (wpAny_setField_rec z2 (by simp) fun g3 z3 b3 => ?_)
  refine wpAny_bind ?_
  show wpAny _ _ (do
    for p in ([Value.ref i2] : List Value).zipIdx 1 do
      if (← Builtin.SmallTypes.nextOrEnd p.1).isSome then
        rule "zip.__next__.longer"
        raiseError "ValueError" s!"zip() argument {p.2 + 1} is longer than {if p.2 == 1 then "argument 1" else s!"arguments 1-{p.2}"}"
    rule "zip.__next__.all-ended"
    Builtin.SmallTypes.stopIteration) _ _ _
  simp only [List.zipIdx_cons, List.zipIdx_nil, List.forIn_cons, List.forIn_nil]
  refine wpAny_bind (wpAny_bind (wpAny_bind ?_))
  have y2 : g3.IsTupleIter i2 l2 k := ((h2.extBut b1.extBut D.i2z).extBut b2 D.i12.symm).extBut b3.extBut D.i2z
  have l3 : g3.IsTuple l2 ys := ((hl2.extBut b1.extBut D.l2z).extBut b2 D.l2i1).extBut b3.extBut D.l2z
  refine draw_end hh y2 l3 hy fun g4 b4 => ?_
  refine wpAny_pure (wpAny_pure (wpAny_bind (wpAny_rule (stop_any hh fun g5 e b5 he => q g5 e (fun c o c1 c2 c3 c4 x => ?_) he))))
  exact b5 _ _ (b4 _ _ c4 (b3.extBut _ _ c1 (b2 _ _ c3 (b1.extBut _ _ c1 x))))
theorem zs_next {z TI TO i1 i2 l1 l2 : Addr} {k : Nat} {xs ys : Array Value} {x y a b : Value} {Q : Option Value → Shared → Prop} (D : ZipApart z TI TO i1 i2 l1 l2) (hz : ZipS s.heap z TI TO .none) (hI : IsPair s.heap TI (.ref i1) (.ref i2)) (hO : IsPair s.heap TO a b)
    (h1 : s.heap.IsTupleIter i1 l1 k) (h2 : s.heap.IsTupleIter i2 l2 k) (hl1 : s.heap.IsTuple l1 xs) (hl2 : s.heap.IsTuple l2 ys) (hx : xs[k]? = some x) (hy : ys[k]? = some y)
    (q : ∀ h', ZipS h' z TI TO (rawInt s.heap.objs.size) → IsPair h' TO x y → h'.IsTupleIter i1 l1 (k + 1) → h'.IsTupleIter i2 l2 (k + 1) → IsPair h' s.heap.objs.size x y →
      (∀ c o, c ≠ z → c ≠ TO → c ≠ i1 → c ≠ i2 → s.heap.get? c = some o → h'.get? c = some o) → Q (some (.ref s.heap.objs.size)) { s with heap := h' }) :
    wpAny (model prog w) A (pyNext (.ref z)) Q E s := by
  have ty : s.TypeIs (.ref z) "zip" := ⟨_, hz, rfl⟩
  unfold pyNext
  refine wpAny_bind (wpAny_attempt (wpAny_callSpecial?_slot (name := Str.ofString "__next__") ty F.slot_zip_next (wpAny_call_entry F.slot_zip_next ty F.entry_zip_next ?_ (F.args_zip_next_1 _))))
  exact zs_item D hz hI hO h1 h2 hl1 hl2 hx hy fun h' c1 c2 c3 c4 c5 c6 => wpAny_pure (q h' c1 c2 c3 c4 c5 c6)
theorem zs_stop {z TI TO i1 i2 l1 l2 : Addr} {k : Nat} {xs ys : Array Value} {a b : Value} {Q : Option Value → Shared → Prop} (hh : A.handled = none) (D : ZipApart z TI TO i1 i2 l1 l2) (hz : ZipS s.heap z TI TO .none) (hI : IsPair s.heap TI (.ref i1) (.ref i2)) (hO : IsPair s.heap TO a b)
    (h1 : s.heap.IsTupleIter i1 l1 k) (h2 : s.heap.IsTupleIter i2 l2 k) (hl1 : s.heap.IsTuple l1 xs) (hl2 : s.heap.IsTuple l2 ys) (hx : xs[k]? = none) (hy : ys[k]? = none)
    (q : ∀ h', (∀ c o, c ≠ z → c ≠ TO → c ≠ i1 → c ≠ i2 → s.heap.get? c = some o → h'.get? c = some o) → Q none { s with heap := h' }) : wpAny (model prog w) A (pyNext (.ref z)) Q E s := by
  have ty : s.TypeIs (.ref z) "zip" := ⟨_, hz, rfl⟩
  unfold pyNext
  refine wpAny_bind (wpAny_attempt (wpAny_callSpecial?_slot (name := Str.ofString "__next__") ty F.slot_zip_next (wpAny_call_entry F.slot_zip_next ty F.entry_zip_next (zs_end hh D hz hI hO h1 h2 hl1 hl2 hx hy fun h' e k he => ?_) (F.args_zip_next_1 _))))
  obtain ⟨o, u1, u2⟩ := he
  exact wpAny_bind (wpAny_isInstance (T := "StopIteration") (b := true) ⟨o, u1, u2⟩ isSubtype_stop (wpAny_pure (q _ k)))
theorem zs_go {es : List Expr} {kk : Nat} {pos : Pos} {z TI TO T : Addr} {Q : Unit → Shared → Prop} (hz : ZipS s.heap z TI TO (rawInt T)) (q : ∀ h', ZipS h' z TI TO .none → Heap.SameBut z s.heap h' → Q () { s with heap := h' }) :
    wpAny (model prog w) A (letOwnedTupleGo (.Tuple es kk pos) (.ref z) (.ref T)) Q E s := by
  unfold letOwnedTupleGo
  refine wpAny_bind (wpAny_load hz ?_)
  show wpAny _ _ (if (_ && (#[rawInt T, .bool false, .bool true, .ref TI, .ref TO] : Array Value)[0]? == some (rawInt T)) = true then _ else _) Q E s
  rw [if_pos (by simp)]
  refine wpAny_bind (wpAny_rule ?_)
  show wpAny _ _ (setField (.ref z) 0 .none) Q E s
  exact wpAny_setField_rec hz (by simp) fun h' a b => q h' a b
theorem zs_iter {z TI TO : Addr} {old : Value} {Q : Value → Shared → Prop} (hz : ZipS s.heap z TI TO old) (q : Q (.ref z) s) : wpAny (model prog w) A (pyIter (.ref z)) Q E s := by
  have ty : s.TypeIs (.ref z) "zip" := ⟨_, hz, rfl⟩
  refine wpAny_pyIter_slot ty F.slot_zip_iter (wpAny_call_entry F.slot_zip_iter ty F.entry_zip_iter ?_ (F.args_zip_iter_1 _))
  show wpAny _ _ (ret (.ref z)) _ _ s
  exact wpAny_pure ⟨_, rfl, "zip", _, ty, F.slot_zip_next.lookup, q⟩
/-! its making -/
abbrev zh1 (h : Heap) (l1 : Addr) : Heap := h.push { cls := .type "tuple_iterator", data := .fields #[.ref l1, .int 0 0] }
abbrev zh2 (h : Heap) (l1 l2 : Addr) : Heap := (zh1 h l1).push { cls := .type "tuple_iterator", data := .fields #[.ref l2, .int 0 0] }
abbrev zh3 (h : Heap) (l1 l2 : Addr) : Heap := (zh2 h l1 l2).push { cls := .type "tuple", data := .seq #[.ref h.objs.size, .ref (zh1 h l1).objs.size] }
abbrev zh4 (h : Heap) (l1 l2 : Addr) : Heap := (zh3 h l1 l2).push { cls := .type "tuple", data := .seq #[.none, .none] }
abbrev zh5 (h : Heap) (l1 l2 : Addr) : Heap := (zh4 h l1 l2).push { cls := .type "zip", data := .fields #[.none, .bool false, .bool true, .ref (zh2 h l1 l2).objs.size, .ref (zh3 h l1 l2).objs.size] }
theorem meets_zs (l1 l2 : Addr) (xs ys : Array Value) :
    Meets (Builtin.«zip.__new__» ⟨[.type "zip", .ref l1, .ref l2], kwS⟩) (fun _ R s => s.heap.IsTuple l1 xs ∧ s.heap.IsTuple l2 ys ∧ R (.ok (.ret (.ref (zh4 s.heap l1 l2).objs.size))) { s with heap := zh5 s.heap l1 l2 }) :=
  .of_wp fun pr wl Ar Rr st hq => by
    obtain ⟨hp, gs, dr, tk, os⟩ := st
    obtain ⟨t1, t2, hq⟩ := hq
    have hsub := sub_zip
    have u1 : Heap.IsTuple (Shared.heap ⟨hp, gs, dr, tk, os⟩) l1 xs := t1
    have u2 : Heap.IsTuple (Shared.heap ⟨hp.push { cls := .type "tuple_iterator", data := .fields #[.ref l1, .int 0 0] }, gs, dr, tk, os⟩) l2 ys := Heap.IsTuple.push t2 _
    have e1 : (Str.ofString "strict" == ("strict" : Str)) = true := by decide +kernel
    have e2 : (Str.ofString "strict" != ("strict" : Str)) = false := by decide +kernel
    wp_walk using wpAny_pyIter_tuple u1, wpAny_pyIter_tuple u2
    exact ⟨_, rfl, hq⟩
theorem call_zs {l1 l2 : Addr} {xs ys : Array Value} {Q : Value → Shared → Prop} (t1 : s.heap.IsTuple l1 xs) (t2 : s.heap.IsTuple l2 ys)
    (q : ∀ h', ZipS h' (s.heap.objs.size + 4) (s.heap.objs.size + 2) (s.heap.objs.size + 3) .none → IsPair h' (s.heap.objs.size + 2) (.ref s.heap.objs.size) (.ref (s.heap.objs.size + 1)) →
      IsPair h' (s.heap.objs.size + 3) .none .none → h'.IsTupleIter s.heap.objs.size l1 0 → h'.IsTupleIter (s.heap.objs.size + 1) l2 0 → (∀ c o, s.heap.get? c = some o → h'.get? c = some o) → Q (.ref (s.heap.objs.size + 4)) { s with heap := h' }) :
    wpAny (model prog w) A (call (.type "zip") [.ref l1, .ref l2] kwS) Q E s := by
  refine callType_newKw F.called_zip (by decide) (zs_type _ _) (zs_new _ _) (fun o => zs_init o _ _) F.entry_zip_new (meets_zs l1 l2 xs ys) ⟨t1, t2, ?_⟩
  have n1 : (zh1 s.heap l1).objs.size = s.heap.objs.size + 1 := Heap.size_push ..
  have n2 : (zh2 s.heap l1 l2).objs.size = s.heap.objs.size + 2 := by rw [Heap.size_push, n1]
  have n3 : (zh3 s.heap l1 l2).objs.size = s.heap.objs.size + 3 := by rw [Heap.size_push, n2]
  have n4 : (zh4 s.heap l1 l2).objs.size = s.heap.objs.size + 4 := by rw [Heap.size_push, n3]
  have k1 : ∀ c o, (zh1 s.heap l1).get? c = some o → (zh5 s.heap l1 l2).get? c = some o := fun c o e => Heap.get?_push_of_some _ (Heap.get?_push_of_some _ (Heap.get?_push_of_some _ (Heap.get?_push_of_some _ e)))
  have a1 : (zh5 s.heap l1 l2).get? s.heap.objs.size = some _ := k1 _ _ (Heap.get?_push_size _ rfl)
  have a2 : (zh5 s.heap l1 l2).get? (zh1 s.heap l1).objs.size = some _ := Heap.get?_push_of_some _ (Heap.get?_push_of_some _ (Heap.get?_push_of_some _ (Heap.get?_push_size _ rfl)))
  have a3 : (zh5 s.heap l1 l2).get? (zh2 s.heap l1 l2).objs.size = some _ := Heap.get?_push_of_some _ (Heap.get?_push_of_some _ (Heap.get?_push_size _ rfl))
  have a4 : (zh5 s.heap l1 l2).get? (zh3 s.heap l1 l2).objs.size = some _ := Heap.get?_push_of_some _ (Heap.get?_push_size _ rfl)
  have a5 : (zh5 s.heap l1 l2).get? (zh4 s.heap l1 l2).objs.size = some _ := Heap.get?_push_size _ rfl
  rw [n1] at a2
  rw [n2, n1] at a3
  rw [n3] at a4
  rw [n4, n2, n3] at a5
  show _ ∧ _
  rw [n4]
  exact ⟨⟨_, a5, rfl⟩, q _ a5 a3 a4 ⟨_, a1, rfl, rfl⟩ ⟨_, a2, rfl, rfl⟩ fun c o x => k1 _ _ (Heap.get?_push_of_some _ x)⟩
end
section
variable {M : Model} {A : Around} {E : Value → Shared → Prop} {s : Shared} {env : Env}
/-- a call of a built-in class with keywords -/
theorem cw_tyKw {pos : Pos} {T : String} {e : Expr} {rest : List Expr} {kws : List Keyword} {Q : Value → Shared → Prop}
    (h : wpAny M A (spliced (backTo pos (starEach (e :: rest) env))) (fun vs s1 => wpAny M A (evalAll ((backToKw pos (keywordEach kws env)).map (·.2))) (fun ks s2 => wpAny M A (call (.type T) vs (((backToKw pos (keywordEach kws env)).filterMap (·.1)).zip ks)) Q E s2) E s1) E s)
    (he : starEach (e :: rest) env = (false, eval e env) :: starEach rest env := by rfl) (hp : (backTo pos (starEach rest env)).any (·.1) = false := by rfl)
    (ha : (backToKw pos (keywordEach kws env)).all (·.1.isSome) = true := by rfl) (hk : (backToKw pos (keywordEach kws env)).any (·.1.isNone) = false := by rfl) :
    wpAny M A (callWith pos (.type T) [] (backTo pos (starEach (e :: rest) env)) (backToKw pos (keywordEach kws env))) Q E s := by
  have hb : backTo pos (starEach (e :: rest) env) = (false, eval e env) :: backTo pos (starEach rest env) := by
    rw [he]
    rfl
  rw [hb] at h ⊢
  have hpl : (((false, eval e env) :: backTo pos (starEach rest env)).any (·.1)) = false := by
    show (false || (backTo pos (starEach rest env)).any (·.1)) = false
    rw [hp]
    rfl
  unfold callWith
  refine wpAny_bind (wpAny_holding (wpAny_mono (evalArgs_kwB (f := .type T) (Q := fun a s1 => wpAny M A (call (.type T) ([] ++ a.pos) a.kw) Q E s1) ha h) (fun a s1 h1 => wpAny_bind (wpAny_standAt ?_)) fun _ _ x => x))
  simp only [hpl, hk, Bool.or_false]
  refine wpAny_bind (wpAny_pure ?_)
  exact wpAny_bind (wpAny_mono h1 (fun r s2 hr => wpAny_bind (wpAny_holding (wpAny_point (wpAny_pure hr)))) fun _ _ x => x)
end
/-- two tuples of one length, the items in new pairs -/
def ItS (K : PySem.W.Frag) (a b : Addr) : It :=
  ⟨fun i H => ∃ (xs ys : List V) (x y : V), SqT K H a xs ∧ SqT K H b ys ∧ xs[i]? = some x ∧ ys[i]? = some y, fun i H v H' => ∃ T x y, v = .ref T ∧ H T = none ∧ H' = upd H T (.tup [x, y]) ∧ (∀ xs, SqT K H a xs → xs[i]? = some x) ∧ ∀ ys, SqT K H b ys → ys[i]? = some y,
    fun i H => ∃ xs ys : List V, SqT K H a xs ∧ SqT K H b ys ∧ xs.length ≤ i ∧ ys.length ≤ i⟩
theorem turn_zs {P : Program} {w : World} {K : PySem.W.Frag} {elts : List Expr} {kk : Nat} {tpos : Pos} {a b z TI TO i1 i2 : Addr} (D : ZipApart z TI TO i1 i2 a b) :
    Turn P w K (.Tuple elts kk tpos) (ItS K a b) [z, TI, TO, i1, i2] z (fun i h => ZipS h z TI TO .none ∧ IsPair h TI (.ref i1) (.ref i2) ∧ (∃ x y, IsPair h TO x y) ∧ h.IsTupleIter i1 a i ∧ h.IsTupleIter i2 b i) where
  mem := by simp
  obj := by
    rintro i h ⟨hz, hI, ⟨x, y, hO⟩, ⟨o1, e1, _, d1⟩, ⟨o2, e2, _, d2⟩⟩ c hc
    rcases (show c = z ∨ c = TI ∨ c = TO ∨ c = i1 ∨ c = i2 by simpa using hc) with rfl | rfl | rfl | rfl | rfl
    · exact ⟨_, hz, fun v q => nomatch q⟩
    · exact ⟨_, hI, fun v q => nomatch q⟩
    · exact ⟨_, hO, fun v q => nomatch q⟩
    · exact ⟨o1, e1, fun v q => by rw [d1] at q; cases q⟩
    · exact ⟨o2, e2, fun v q => by rw [d2] at q; cases q⟩
  keep := by
    rintro i h h' ⟨hz, hI, ⟨x, y, hO⟩, t1, t2⟩ k
    exact ⟨k z (by simp) _ hz, k TI (by simp) _ hI, ⟨x, y, k TO (by simp) _ hO⟩, t1.at fun o q => k i1 (by simp) o q, t2.at fun o q => k i2 (by simp) o q⟩
  item := by
    rintro X rfl rfl rfl hc i pins s σ H E I hf ⟨hz, hI, ⟨x0, y0, hO⟩, t1, t2⟩ ⟨xs, ys, x, y, qx, qy, hx, hy⟩
    obtain ⟨us, ru, pu, _⟩ := I.tuple qx
    obtain ⟨ws, rw', pw, _⟩ := I.tuple qy
    obtain ⟨u, hu, r1⟩ := ru.get hx
    obtain ⟨u2, hu2, r2⟩ := rw'.get hy
    have lz : z < s.heap.objs.size := Heap.lt_size hz
    refine zs_next D hz hI hO t1 t2 (show s.heap.IsTuple a us.toArray from pu) (show s.heap.IsTuple b ws.toArray from pw) (x := u) (y := u2) (by simpa using hu) (by simpa using hu2) fun h' z' O' j1 j2 nT k => ?_
    refine ⟨_, rfl, zs_go (s := { s with heap := h' }) z' fun h2 z2 sb => ?_⟩
    have nT2 : h2.get? s.heap.objs.size = some { cls := .type "tuple", data := .seq #[u, u2] } := (sb.2 _ (Nat.ne_of_gt lz)).trans nT
    have I1 : Inv X pins σ (upd H s.heap.objs.size (.tup [x, y])) { s with heap := h2 } :=
      I.turnedNew (t' := s.toks) (ch := [z, TI, TO, i1, i2]) (fun c o hb q => (sb.2 c (fun e => hb (by simp [e]))).trans (k c o (fun e => hb (by simp [e])) (fun e => hb (by simp [e])) (fun e => hb (by simp [e])) (fun e => hb (by simp [e])) q)) hf (Nat.le_refl _)
        ⟨by show 2 ≤ sizeLine; decide, [u, u2], .cons r1 (.cons r2 .nil), ⟨_, nT2, rfl, _, rfl⟩⟩
    refine ⟨.ref s.heap.objs.size, _, I1, rfl, ⟨_, x, y, rfl, I.hok.fresh (Nat.le_refl _), rfl, fun l hl => by rw [I.tuple_inj hl qx]; exact hx, fun l hl => by rw [I.tuple_inj hl qy]; exact hy⟩, ⟨z2, (sb.2 _ D.TIz).trans (k _ _ D.TIz D.TITO D.TIi1 D.TIi2 hI), ⟨u, u2, (sb.2 _ D.TOz).trans O'⟩, j1.at fun o q => (sb.2 _ D.i1z).trans q, j2.at fun o q => (sb.2 _ D.i2z).trans q⟩, fun c hcm => ?_⟩
    have lt : c < s.heap.objs.size := by
      rcases (show c = z ∨ c = TI ∨ c = TO ∨ c = i1 ∨ c = i2 by simpa using hcm) with rfl | rfl | rfl | rfl | rfl
      · exact lz
      · exact Heap.lt_size hI
      · exact Heap.lt_size hO
      · exact let ⟨_, e, _⟩ := t1; Heap.lt_size e
      · exact let ⟨_, e, _⟩ := t2; Heap.lt_size e
    rw [upd_ne (Nat.ne_of_lt lt)]
    exact (hf c hcm).1
  done := by
    rintro X rfl rfl rfl hc i pins s σ H E I hf ⟨hz, hI, ⟨x0, y0, hO⟩, t1, t2⟩ ⟨xs, ys, qx, qy, l1, l2⟩
    obtain ⟨us, ru, pu, _⟩ := I.tuple qx
    obtain ⟨ws, rw', pw, _⟩ := I.tuple qy
    have n1 := ru.length
    have n2 := rw'.length
    exact zs_stop (I.ok.hd hc) D hz hI hO t1 t2 (show s.heap.IsTuple a us.toArray from pu) (show s.heap.IsTuple b ws.toArray from pw) (by simp; omega) (by simp; omega) fun h' k => ⟨rfl, I.turnedL (t' := s.toks) (ch := [z, TI, TO, i1, i2]) (fun c o hb q =>
      k c o (fun e => hb (by simp [e])) (fun e => hb (by simp [e])) (fun e => hb (by simp [e])) (fun e => hb (by simp [e])) q) hf⟩
  self := fun A i s Q E st h => zs_iter st.1 h
def iZipS (K : PySem.W.Frag) (ta : TA) : TI := fun σ H R => ta σ H fun vs H1 => ∃ a b xs ys, vs = [.ref a, .ref b] ∧ SqT K H1 a xs ∧ SqT K H1 b ys ∧ R (ItS K a b) H1
theorem pi_zipS {X : Cx} {e e2 : Expr} {ta : TA} {p pos tpos cp kp : Pos} {elts : List Expr} {kk j : Nat} (hg : Gl X "zip") (hm : X.mg "zip" = none) (ha : PA X [e, e2] ta)
    (hs : starEach [e, e2] X.env = (false, eval e X.env) :: starEach [e2] X.env := by rfl) (hp : (backTo pos (starEach [e2] X.env)).any (·.1) = false := by rfl) :
    PI X (.Tuple elts kk tpos) (.Call (.Name "zip" p) [e, e2] [⟨some "strict", .Constant (.bool true) j cp, kp⟩] pos) (iZipS X.K ta) := by
  refine ⟨fun pins s σ H R I h => ?_⟩
  refine wpAny_Call_Name_kw (ld_blt I hg hm PyProof.Rows.boot_zip (cw_tyKw (thn (ha.run pos pins s σ H _ I h) fun us s1 ⟨vs, H1, I1, r1, q1⟩ => ?_) hs hp))
  obtain ⟨a, b, xs, ys, rfl, qx, qy, q⟩ := q1
  cases r1 with
  | cons r rr =>
  cases rr with
  | cons r' rr =>
  cases rr
  cases r
  cases r'
  refine thn ((pk_cons (nm := some "strict") (kpos := kp) (X := X) (pe_bl (b := true) (j := j) (pos := cp)) pk_nil).run pos pins s1 σ H1 (fun vs H2 => vs = [.bl true] ∧ H2 = H1) I1 ⟨rfl, rfl⟩) fun ks s2 ⟨zs, H2, I2, r2, q2⟩ => ?_
  obtain ⟨rfl, rfl⟩ := q2
  cases r2 with
  | cons r rr =>
  cases rr
  cases r
  obtain ⟨us, ru, pu, _⟩ := I2.tuple qx
  obtain ⟨ws, rw', pw, _⟩ := I2.tuple qy
  have p1 : s2.heap.IsTuple a us.toArray := pu
  have p2 : s2.heap.IsTuple b ws.toArray := pw
  refine call_zs p1 p2 fun h' z' I' O' j1 j2 k => zs_iter z' ?_
  have I3 : Inv X pins σ H2 { s2 with heap := h' } := I2.kept (t' := s2.toks) k
  refine ⟨s2.heap.objs.size + 4, [s2.heap.objs.size + 4, s2.heap.objs.size + 2, s2.heap.objs.size + 3, s2.heap.objs.size, s2.heap.objs.size + 1], _, _, H2, rfl, I3, turn_zs (PySem.W.ktu_apart s2.heap.objs.size a b (let ⟨_, e, _⟩ := p1; Heap.lt_size e) (let ⟨_, e, _⟩ := p2; Heap.lt_size e)), ⟨z', I', ⟨_, _, O'⟩, j1, j2⟩, fun c hc => ?_, q⟩
  have le : s2.heap.objs.size ≤ c := by
    have hc : c = s2.heap.objs.size + 4 ∨ c = s2.heap.objs.size + 2 ∨ c = s2.heap.objs.size + 3 ∨ c = s2.heap.objs.size ∨ c = s2.heap.objs.size + 1 := by simpa using hc
    rcases hc with z | z | z | z | z
    · exact z ▸ Nat.le_add_right _ _
    · exact z ▸ Nat.le_add_right _ _
    · exact z ▸ Nat.le_add_right _ _
    · exact z ▸ Nat.le_refl _
    · exact z ▸ Nat.le_add_right _ _
  exact I2.fpOk le (I2.hok.fresh le)
theorem walk_zs {K : PySem.W.Frag} {a b : Addr} {xs ys : List V} (hl : xs.length = ys.length) : Walk (ItS K a b) xs.length (fun H => SqT K H a xs ∧ SqT K H b ys) (YPair (fun i => xs[i]?) (fun i => ys[i]?)) := by
  refine ⟨fun i _ hi q => ⟨xs, ys, xs[i], ys[i], q.1, q.2, by simp [hi], by simp⟩, fun _ q => ⟨xs, ys, q.1, q.2, Nat.le_refl _, by omega⟩, fun i H v H' _ q y => ?_⟩
  obtain ⟨T, x, z, h1, h2, h3, h4, h5⟩ := y
  exact ⟨T, x, z, h1, h2, h3, h4 xs q.1, h5 ys q.2⟩
end Ph
set_option linter.all false
set_option maxRecDepth 100000
set_option maxHeartbeats 4000000
namespace Ph
open PySem PySem.Spec PyProof.Rows L2
/-! ### try: .. except (x, y): - an exception of the body is of one of the two -/
def wTwo (K : PySem.W.Frag) (c1 c2 : Value) (ts : Addr → Value → Option Addr → TS) (D : Ends) : WX := fun cls d σ H => PySem.W.exmAny K cls [c1, c2] = some true ∧ ∀ a, H a = none → ts a cls d D σ H
section
variable {X : Cx} {x y : Str} {c1 c2 : Value} {body suite : List Stmt} {b₀ : Stmt} {np nq tp pos pos' : Pos} {kk : Nat} {tb : WX → TS} {ts : Addr → Value → Option Addr → TS}
theorem ps_try_two (hs : X.stack = X.env :: X.outer) (hf : X.env.frame = some X.env.locals) (h1 : Names X x c1) (h2 : Names X y c2)
    (hb : ∀ (W : WX) (pn : List (Addr × Obj)) (xe : Value → Shared → Prop), Takes (X.tr pn xe) W → PassesOwn (model X.prog X.w) X.A X.env xe → PSs (X.tr pn xe) body (tb W))
    (hsu : ∀ (a : Addr) (oe : Obj) (cls : Value) (d : Option Addr) (pn : List (Addr × Obj)), Zc cls d oe → (∃ vs, oe.data = .fields vs) → PSs (X.suite a ((a, oe) :: pn)) (b₀ :: suite) (ts a cls d)) :
    PS X (.Try body [.ExceptHandler (some (.Tuple [.Name x np, .Name y nq] kk tp)) none (b₀ :: suite) pos'] [] [] pos) (fun D σ H => tb (wTwo X.K c1 c2 ts D) D σ H) := by
  refine ⟨fun pins s σ H D I h => ?_⟩
  have ok := I.ok
  have hfr : X.A.frames = some (X.env :: X.outer) := by rw [ok.frames, hs]
  refine wpAny_Try_except (wpAny_mono ((hb (wTwo X.K c1 c2 ts D) (X.pn ++ pins) (fun e s₁ => wpAny (model X.prog X.w) X.A (noteFrame e X.env) (fun _ s₂ => wpAny (model X.prog X.w) X.A (setFlight e none) (fun _ s₃ =>
    wpAny (model X.prog X.w) X.A (handleBy e X.env [.ExceptHandler (some (.Tuple [.Name x np, .Name y nq] kk tp)) none (b₀ :: suite) pos']) (SP X pins D) X.xe s₃) X.xe s₂) X.xe s₁) (fun u s' xx => ?_) PassesOwn.looking).run [] s σ H D (I.toTry _) h) (fun f s1 hsp => ?_) fun e s1 he => he)
  · obtain ⟨a, B, sI, pins', σ', H', cls, d, rfl, J', nb, up, sky, na, os, ag, hm, hyes⟩ := xx
    have J : Inv X pins σ' H' sI := J'.ofTry ok
    have sky2 : Sky B (X.env :: X.outer) a (Zc cls d) X.env.locals s'.heap := by rw [← hs]; exact sky
    show wpAny (model X.prog X.w) X.A (noteFrame (.ref a) X.env) _ _ _
    refine Sky.land Zc.steady hfr hf sky2 fun g fl up3 => ?_
    have J3 : Inv X pins σ' H' { s' with heap := g } := J.landed nb fl.1 (up.trans up3) os ag
    obtain ⟨oe, vs, he, hz, hd⟩ := fl.there
    have nfr : a ∉ frs (X.env :: X.outer) := fun hm => by
      obtain ⟨_, o', e', hnf⟩ := fl.2.2.1.mem hm
      rw [he] at e'
      cases e'
      exact hnf _ hd
    have nL : a ≠ X.env.locals := fun z => nfr (List.mem_filterMap.mpr ⟨X.env, List.mem_cons_self, by rw [hf, z]⟩)
    have nF : a ∉ X.fs := fun hm => by
      obtain ⟨e, k1, q⟩ := List.mem_filterMap.mp hm
      exact nfr (List.mem_filterMap.mpr ⟨e, List.mem_cons_of_mem _ k1, q⟩)
    have S3 := J3.suite he hd na nL nF
    refine wpAny_handleBy_cons (codeAny_handlers_test ?_) (by intro q; cases q)
    have look : ∀ {n : Str} {c : Value} {p : Pos} {Q : Value → Shared → Prop} {E : Value → Shared → Prop}, Names X n c → Q c { s' with heap := g } → wpAny (model X.prog X.w) (X.A.mark (some (.ref a))) (eval (.Name n p) X.env) Q E { s' with heap := g } := fun {n c p Q E} hc q => by
      obtain ⟨hg, hdbg, hm | ⟨hm, hv, hnn⟩⟩ := hc
      · exact ld_glob (X := X.suite a ((a, oe) :: (X.pn ++ pins))) S3 hg hm q hdbg
      · exact ld_blt (X := X.suite a ((a, oe) :: (X.pn ++ pins))) S3 hg hm hv q hnn hdbg
    refine wpAny_Tuple_spliced ?_
    refine Calls.spliced_cons (look h1 (Calls.spliced_cons (look h2 (Calls.spliced_nil ?_))))
    refine ⟨by show 2 ≤ sizeLine; decide, ?_⟩
    have kp : ∀ b o, g.get? b = some o → (g.push { cls := .type "tuple", data := .seq [c1, c2].toArray }).get? b = some o := fun b o e => Heap.get?_push_of_some _ e
    have J5 : Inv X pins σ' H' { s' with heap := g.push { cls := .type "tuple", data := .seq [c1, c2].toArray } } := J3.kept (t' := s'.toks) kp
    have LT : PySem.W.Looks (model X.prog X.w) (g.push { cls := .type "tuple", data := .seq [c1, c2].toArray }) (typeOf (.ref a)) cls := fun A Q E s k q => wpAny_typeOf_ref (k _ _ (kp _ _ he)) (by rw [hz.1]; exact q)
    refine (PySem.W.exm_tup2 (M := model X.prog X.w) J5.kIn LT (Heap.get?_push_size _ rfl) hm).here ?_
    refine codeAny_handlers_suite ?_
    have fl2 : HandSPX.FlyingZ B (X.env :: X.outer) a (Zc cls d) (g.push { cls := .type "tuple", data := .seq [c1, c2].toArray }) := by
      obtain ⟨f1, f2, f3, oe', vs', T, oT, ts', g1, g2, g3, g4, g5, g6, g7, g8, g9⟩ := fl
      exact ⟨fun b o e => kp _ _ (f1 b o e), f2, f3.of_keeps fun b o e _ => ⟨o, kp _ _ e, rfl⟩, oe', vs', T, oT, ts', kp _ _ g1, g2, g3, g4, g5, g6, kp _ _ g7, g8, g9⟩
    have up4 : g.UpToSlots (g.push { cls := .type "tuple", data := .seq [c1, c2].toArray }) := fun b o e _ => ⟨o.slots, kp _ _ e⟩
    refine HandSPX.lands_againZ (s := { s' with heap := g.push { cls := .type "tuple", data := .seq [c1, c2].toArray } }) fl2 fun g5 fl5 up5 => ?_
    have J6 : Inv X pins σ' H' { s' with heap := g5 } := J.landed nb fl5.1 (((up.trans up3).trans up4).trans up5) os ag
    obtain ⟨oe6, vs6, he6, hz6, hd6⟩ := fl5.there
    have S6 := J6.suite he6 hd6 na nL nF
    refine wpAny_mono ((hsu a oe6 cls d (X.pn ++ pins) hz6 ⟨_, hd6⟩).run [] _ _ H' _ S6 (hyes a na)) (fun f s6 hsp => ?_) (fun _ _ z => False.elim z)
    cases f with
    | next => exact let ⟨σ6, H6, S, q⟩ := hsp; ⟨_, _, S.unsuite ok, q⟩
    | brk => exact let ⟨σ6, H6, S, q⟩ := hsp; ⟨_, _, S.unsuite ok, q⟩
    | cont => exact let ⟨σ6, H6, S, q⟩ := hsp; ⟨_, _, S.unsuite ok, q⟩
    | ret u => exact let ⟨v6, σ6, H6, S, r6, q⟩ := hsp; ⟨_, _, _, S.unsuite ok, r6, q⟩
  · cases f with
    | next => exact let ⟨σ', H', J', q⟩ := hsp; wpAny_execs_nil ⟨σ', H', J'.ofTry ok, q⟩
    | brk => exact let ⟨σ', H', J', q⟩ := hsp; ⟨σ', H', J'.ofTry ok, q⟩
    | cont => exact let ⟨σ', H', J', q⟩ := hsp; ⟨σ', H', J'.ofTry ok, q⟩
    | ret u => exact let ⟨v, σ', H', J', r, q⟩ := hsp; ⟨v, σ', H', J'.ofTry ok, r, q⟩
end
end Ph
set_option linter.all false
set_option maxRecDepth 100000
set_option maxHeartbeats 4000000
namespace Ph
open PySem PySem.Spec PyProof.Rows L2 LamX
/-! ### TABLE.get(text, x) -/
/-- what the written dict at a gives for z -/
def KGets (K : PySem.W.Frag) (w : World) (a : Addr) (z : Str) : Option V → Prop
  | none => ∃ es n, KDict K w a es n ∧ PySem.W.nsIn K a z = some none
  | some v => ∃ es n u, KDict K w a es n ∧ PySem.W.nsIn K a z = some (some u) ∧ RelV v u
def tKGet2 (K : PySem.W.Frag) (w : World) (td ty tx : TE) : TE := fun σ H Q => td σ H fun x H1 => ∃ a, x = .ref a ∧ (∃ es n, KDict K w a es n) ∧ ty σ H1 fun y H2 => tx σ H2 fun z H3 => ∃ k o, y = .str k ∧ KGets K w a k o ∧ Q (o.getD z) H3
section
variable {X : Cx} {o e f : Expr} {apos cpos : Pos} {td ty tx : TE}
theorem pe_kget2 (ho : PE X o td) (he : PE X e ty) (hf : PE X f tx) (m : M2 X o "get" apos e f cpos) : PE X (.Call (.Attribute o "get" apos) [e, f] [] cpos) (tKGet2 X.K X.w td ty tx) := by
  refine ⟨fun pins s σ H Q I h => ?_⟩
  refine wpAny_Call_method m.base m.few m.line PySem.F.plainAttrs_dict PySem.F.slot_dict_get PySem.F.type_dict_get (thn (ho.run pins s σ H _ I h) fun u s1 ⟨x, H1, I1, rx, a, ex, ⟨es, n, D⟩, q1⟩ => ?_)
  subst ex
  obtain rfl : u = Value.ref a := rx
  have mo := PySem.W.mapOf_K (prog := X.prog) (w := X.w) I1.kIn D.at_ D.lit
  refine ⟨mo.typeIs, fun b q => ?_, ?_⟩
  · cases q
    exact ⟨_, I1.kIn _ _ D.at_, rfl⟩
  rw [m.trees]
  refine Calls.callWith_builtin rfl (Calls.evalArgs_plain (Calls.spliced_cons (thn (he.run pins s1 σ H1 _ I1 q1) fun iv s2 ⟨y, H2, I2, ry, q2⟩ => Calls.spliced_cons (thn (hf.run pins s2 σ H2 _ I2 q2) fun fv s3 ⟨z, H3, I3, rz, k, ov, ey, g, q3⟩ => Calls.spliced_nil ?_))))
  subst ey
  obtain ⟨t, rfl⟩ := ry
  have mo3 := PySem.W.mapOf_K (prog := X.prog) (w := X.w) I3.kIn D.at_ D.lit
  refine call_meetsIn PySem.F.slot_dict_get mo3.typeIs PySem.F.entry_dict_get (PySem.F.args_dict_get_3 _ _ _) (meets_dict_get_default (strKind X.prog X.w) a (strKind_is X.prog X.w k t) D.low fv) ⟨_, mo3, ?_⟩
  have I4 : Inv X pins σ H3 { s3 with toks := s3.toks + 1 } := I3.tok _
  cases ov with
  | none =>
    obtain ⟨_, _, _, e1⟩ := g
    rw [PySem.W.find_K D.at_ e1]
    exact ⟨z, H3, I4, rz, q3⟩
  | some v =>
    obtain ⟨_, _, u, _, e1, r1⟩ := g
    rw [PySem.W.find_K D.at_ e1]
    exact ⟨v, H3, I4, r1, q3⟩
end
/-! ### a call of a local that holds one of several defs -/
structure HeldX (P : Program) (w : World) (K : PySem.W.Frag) (mg : Str → Option Value) (base : Heap) (CX : CXT) (k : Nat) (f : Addr) (sp : Sp) : Prop where
  ex : ∃ (fd : FuncData) (ps : List Str), FnOk P w K mg base CX k f fd ps sp ∧ PySem.W.keepIn K (.ref f) = true ∧ Binds K fd ps []
section
variable {P : Program} {w : World} {K : PySem.W.Frag} {mg : Str → Option Value} {base : Heap}
theorem HeldX.of {CX : CXT} {j k : Nat} {x : Str} {ps : List Str} {sp : Sp} {f : Addr} (c : Cal P w K mg base CX j x ps sp) (hm : mg x = some (.ref f)) (h : j ≤ k) : HeldX P w K mg base CX k f sp := by
  obtain ⟨g, fd, a, b, d, e⟩ := c.ex
  rw [hm] at b
  cases b
  exact ⟨fd, ps, a.mono h, d, e⟩
/-- nothing leaves it: under any rule of what may leave -/
theorem Cal.up0 {CX : CXT} {k : Nat} {x : Str} {ps : List Str} {sp : Sp} (c : Cal P w K mg base CX0 k x ps sp) : Cal P w K mg base CX k x ps sp := by
  obtain ⟨f, fd, F, b⟩ := c.ex
  refine ⟨f, fd, ⟨F.len, fun A outer s H args us vs Q E hr he hb hv hs => codeAny_mono (F.run A outer s H args us vs Q E hr he hb hv hs) fun r s' h => ?_⟩, b⟩
  cases r with
  | error e => exact (show False from h).elim
  | ok fl => cases fl <;> exact h
end
def tCallS (i : Nat) (S : Addr → Sp → Prop) (E : XK) (t : TA) : TE := fun σ H Q => ∃ f sp, σ[i]? = some (some (.ref f)) ∧ S f sp ∧ t σ H fun vs H1 => sp vs H1 Q E
section
variable {X : Cx} {CX : CXT} {k i : Nat} {E : XK} {x : Str} {p pos : Pos} {e : Expr} {es : List Expr} {t : TA}
theorem pe_callS {S : Addr → Sp → Prop} (A : ∀ f sp, S f sp → HeldX X.prog X.w X.K X.mg X.base CX k f sp) (hr : Room k X.A) (hx : Passes CX X E) (hN : X.N[i]? = some x) (hv : Vis X.env.scope x) (ha : PA X (e :: es) t)
    (hdb : (x == ("__debug__" : Str)) = false := by decide) (hcd : (x == ("__classdict__" : Str)) = false := by decide)
    (he : starEach (e :: es) X.env = (false, eval e X.env) :: starEach es X.env := by rfl) (hpl : (backTo pos (starEach es X.env)).any (·.1) = false := by rfl) : PE X (.Call (.Name x p) (e :: es) [] pos) (tCallS i S E t) := by
  refine ⟨fun pins s σ H Q I h => ?_⟩
  obtain ⟨f, sp, hs, hS, ht⟩ := h
  obtain ⟨fd, ps, F, hk, hb⟩ := (A f sp hS).ex
  refine (pe_callL (i := i) (f := f) (sp := sp) (dvs := []) (E := E) F hr hN hv hk hb .nil hx ha hdb hcd he hpl).run pins s σ H Q I ⟨hs, ?_⟩
  simpa only [List.append_nil] using ht
/-! ### a lambda as a value -/
def tLamV (T : List (Addr × Str)) : TE := fun σ H Q => Tabs T H ∧ ∀ f H1, ExtN H H1 → Tabs T H1 → H1 f = none → Q (.ref f) H1
theorem pe_lamV {T : List (Addr × Str)} {c P : Addr} {params : Arguments} {body : Expr} {scope : Scope} {lpos : Pos} (TB : TabB X.base X.mg c P) (hcode : X.env.code = .ref c) (hm : (P, X.env.qual ++ "<lambda>") ∈ T) (hu : ∀ p ∈ T, p.1 = P → p.2 = X.env.qual ++ "<lambda>")
    (hdef : defaultsOf params X.env = ([], [])) (hfree : ∀ y ∈ scope.names, y.2 = .free → X.env.scope.names.lookup y.1 = some .cell ∨ X.env.scope.names.lookup y.1 = some .free) : PE X (.Lambda params body scope lpos) (tLamV T) := by
  refine ⟨fun pins s σ H Q I ⟨hT, q⟩ => ?_⟩
  exact lam_make2 I TB hcode hm hu hT hdef (fun y hy e => (hfree y hy e).elim (fun z => I.ok.has _ (.inl z)) (fun z => I.ok.has _ (.inr z))) fun f c' pm ctv H1 s' I1 eN T1 _ hfn _ _ => ⟨.ref f, H1, I1, rfl, q f H1 eN T1 hfn⟩
end
end Ph
set_option linter.all false
set_option maxRecDepth 100000
set_option maxHeartbeats 40000000
set_option exponentiation.threshold 500
namespace Ph
open PySem PySem.Spec PyProof.Rows L2 LamX
theorem strYes {x y : Str} (h : x = y) : decide (V.str x = V.str y) = true := by
  subst h
  exact decide_eq_true rfl
theorem strNo {x y : Str} (h : x ≠ y) : decide (V.str x = V.str y) = false := decide_eq_false fun z => h (V.str.inj z)
/-! ### what mutation of lists and dicts leaves alone -/
def Imm : HO → Prop
  | .tup _ => True
  | .ins .. => True
  | _ => False
def SameI (H H' : Hp) : Prop := ∀ b o, H b = some o → Imm o → H' b = some o
theorem SameI.refl (H : Hp) : SameI H H := fun _ _ h _ => h
theorem SameI.trans {H H1 H2 : Hp} (a : SameI H H1) (b : SameI H1 H2) : SameI H H2 := fun c o h i => b c o (a c o h i) i
theorem SameI.of {H H' : Hp} (s : Same H H') : SameI H H' := fun b o h _ => s b o h
theorem SameI.ofN {H H' : Hp} (s : ExtN H H') : SameI H H' := fun b o h i => s b o h fun ps e => by
  subst e
  exact i
theorem SameI.put {H : Hp} {D : Addr} {o o' : HO} (h : H D = some o) (n : ¬ Imm o) : SameI H (upd H D o') := fun b u e i => by
  by_cases z : b = D
  · subst z
    rw [h] at e
    cases e
    exact absurd i n
  · rw [upd_ne z]
    exact e
def MoI (A : Ap) : Prop := ∀ H H' v, SameI H H' → A H v → A H' v
theorem MoI.mo {A : Ap} (m : MoI A) : Mo A := fun H H' v s => m H H' v (SameI.of s)
section
variable {CE : Addr}
theorem mi_num {q : Rat} : MoI (Nm CE q) := fun _ _ _ s ⟨a, dx, e, h⟩ => ⟨a, dx, e, s _ _ h True.intro⟩
theorem mi_pt {p : P2} : MoI (PtA CE p) := fun _ _ _ s ⟨a, x, y, e, h, h1, h2⟩ => ⟨a, x, y, e, s _ _ h True.intro, mi_num _ _ _ s h1, mi_num _ _ _ s h2⟩
theorem mi_ln {l : L3} : MoI (LnA CE l) := fun _ _ _ s ⟨a, x, y, z, e, h, h1, h2, h3⟩ => ⟨a, x, y, z, e, s _ _ h True.intro, mi_num _ _ _ s h1, mi_num _ _ _ s h2, mi_num _ _ _ s h3⟩
theorem mi_ci {c : P2 × Rat} : MoI (CiA CE c) := fun _ _ _ s ⟨a, x, y, e, h, h1, h2⟩ => ⟨a, x, y, e, s _ _ h True.intro, mi_pt _ _ _ s h1, mi_num _ _ _ s h2⟩
theorem mi_st {s : Str × Stp} : MoI (StA s) := fun _ _ _ e ⟨a, h, k⟩ => ⟨a, h, e _ _ k True.intro⟩
theorem Each.sameI {α : Type} {A : α → Ap} {xs : List α} {H H' : Hp} {vs : List V} (mo : ∀ x, MoI (A x)) (e : Each A xs H vs) (s : SameI H H') : Each A xs H' vs := ⟨e.1, fun i x h => let ⟨v, a, b⟩ := e.2 i x h; ⟨v, a, mo x _ _ _ s b⟩⟩
theorem mi_tupOf {α : Type} {A : α → Ap} {xs : List α} (mo : ∀ x, MoI (A x)) : MoI (TupOf A xs) := fun _ _ _ s ⟨a, vs, h, k, e⟩ => ⟨a, vs, h, s _ _ k True.intro, e.sameI mo s⟩
theorem mi_pl {pl : Pl} : MoI (PlA pl) := mi_tupOf fun _ => mi_st
/-! ### things -/
inductive Thg where
  | pt (p : P2)
  | ln (l : L3) (b w : P2)
  | ci (m p : P2)
def Thg.A (CE : Addr) : Thg → Ap
  | .pt p => PtA CE p
  | .ln l _ _ => LnA CE l
  | .ci m p => CiA CE (circC m p)
def ThO (CE : Addr) : Option Thg → Ap
  | none => fun _ v => v = .non
  | some t => t.A CE
theorem mi_tho : ∀ {o : Option Thg}, MoI (ThO CE o)
  | none => fun _ _ _ _ h => h
  | some (.pt _) => mi_pt
  | some (.ln ..) => mi_ln
  | some (.ci ..) => mi_ci
theorem mo_tho {o : Option Thg} : Mo (ThO CE o) := mi_tho.mo
/-- not None -/
theorem ThO.ne {t : Thg} {H : Hp} {v : V} (h : ThO CE (some t) H v) : ∃ a, v = .ref a := by
  cases t with
  | pt p => exact let ⟨a, _, _, e, _⟩ := h; ⟨a, e⟩
  | ln l b w => exact let ⟨a, _, _, _, e, _⟩ := h; ⟨a, e⟩
  | ci m p => exact let ⟨a, _, _, e, _⟩ := h; ⟨a, e⟩
theorem rl_th {t : Thg} {H : Hp} {v : V} (h : ThO CE (some t) H v) : RL CE 3 H v := by
  cases t with
  | pt p => exact rl_pt h
  | ln l b w => exact rl_ln h
  | ci m p => exact rl_ci h
end
abbrev Ev := List (Str × Option Thg)
def eL : Ev → Str → Option (Option Thg)
  | [], _ => none
  | (x, t) :: E, y => if y = x then some t else eL E y
def thg (E : Ev) (x : Str) : Option Thg := (eL E x).getD none
theorem thg_some {E : Ev} {x : Str} {t : Thg} (h : thg E x = some t) : eL E x = some (some t) := by
  unfold thg at h
  cases q : eL E x with
  | none =>
    rw [q] at h
    cases h
  | some o =>
    rw [q] at h
    exact congrArg some h
/-- the dict's items tell E -/
def ThK (CE : Addr) (E : Ev) (H : Hp) (kvs : List (Key × V)) : Prop := kvs.length ≤ E.length ∧ ∀ x o, eL E x = some o → ∃ u, valV kvs (.inr x) = some u ∧ ThO CE o H u
def ThereA (CE : Addr) (E : Ev) : Ap := fun H v => ∃ a kvs, v = .ref a ∧ H a = some (.dK kvs) ∧ ThK CE E H kvs
section
variable {CE : Addr}
theorem ThK.sameI {E : Ev} {H H' : Hp} {kvs : List (Key × V)} (h : ThK CE E H kvs) (s : SameI H H') : ThK CE E H' kvs := ⟨h.1, fun x o e => let ⟨u, a, b⟩ := h.2 x o e; ⟨u, a, mi_tho _ _ _ s b⟩⟩
theorem ThK.put {E : Ev} {H : Hp} {kvs : List (Key × V)} {x : Str} {o : Option Thg} {u : V} (h : ThK CE E H kvs) (hu : ThO CE o H u) : ThK CE ((x, o) :: E) H (putK kvs (.inr x) u) := by
  refine ⟨Nat.le_trans (length_putK _ _ _) (Nat.succ_le_succ h.1), fun y o' e => ?_⟩
  rw [valV_put]
  unfold eL at e
  by_cases z : y = x
  · rw [if_pos z] at e
    cases e
    exact ⟨u, if_pos (by rw [z]), hu⟩
  · rw [if_neg z] at e
    rw [if_neg (fun q => z (by injection q))]
    exact h.2 y o' e
theorem ThK.nil {H : Hp} : ThK CE [] H [] := ⟨Nat.le_refl _, fun _ _ e => by cases e⟩
theorem mo_there {E : Ev} : Mo (ThereA CE E) := fun _ _ _ s ⟨a, kvs, e, h, k⟩ => ⟨a, kvs, e, s _ _ h, k.sameI (SameI.of s)⟩
/-- there[x], x a text -/
theorem eg_there {σ : L2.St} {H : Hp} {i : Nat} {v : V} {E : Ev} {x : Str} {o : Option Thg} {tk : TE} (h : σ[i]? = some (some v)) (hv : ThereA CE E H v) (ho : eL E x = some o) (ek : EG (fun _ u => u = .str x) tk σ H) : EG (ThO CE o) (tDGet (tVar i) tk) σ H := fun H1 s Q k =>
  ⟨v, h, ek H1 s _ fun u H2 s2 eu => by
    subst eu
    obtain ⟨a, kvs, e, ha, hk⟩ := mo_there _ _ _ (s.trans s2) hv
    obtain ⟨u, e1, e2⟩ := hk.2 x o ho
    exact ⟨a, u, e, e1 ▸ DGet.k (k := .inr x) ha, k u H2 s2 e2⟩⟩
/-- of[k], of a list -/
theorem eg_lx {K : PySem.W.Frag} {σ : L2.St} {H : Hp} {i k : Nat} {a : Addr} {xs : List V} {y : V} {A : Ap} (h : σ[i]? = some (some (.ref a))) (ha : H a = some (.lst xs)) (hy : xs[k]? = some y) (m : Mo A) (hA : A H y) : EG A (tOp (rIxL K) (tVar i) (tC (.int (k : Int)))) σ H := fun H1 s Q q =>
  ⟨_, h, a, xs, (k : Int), y, rfl, rfl, SqL.of (s _ _ ha), atI_nat hy, q y H1 (Same.refl _) (m _ _ _ s hA)⟩
theorem mo_str {x : Str} : Mo (fun _ u => u = V.str x) := fun _ _ _ _ h => h
/-! ### the way of a line -/
def WayAt (pl : Pl) (E : Ev) : Nat → Str → P2 → Prop
  | 0 => fun _ _ => False
  | d + 1 => fun x w => ∃ (i : Nat) (k : Bn) (u v : Str), pl[i]? = some (x, Stp.two k u v) ∧ ((k = .line ∧ ∃ p q, thg E u = some (.pt p) ∧ thg E v = some (.pt q) ∧ w = wayB p q) ∨ (k = .along ∧ WayAt pl E d v w) ∨ (k = .upright ∧ ∃ w', WayAt pl E d v w' ∧ w = leftP w'))
def Thg.sm (n : Nat) : Thg → Prop
  | .pt p => SmP n p
  | .ln l _ _ => SmL n l
  | .ci m p => SmP n m ∧ SmP n p
abbrev eSz : Nat := 20000
def EvSm (E : Ev) : Prop := ∀ x t, thg E x = some t → t.sm eSz
theorem WayAt.sm {pl : Pl} {E : Ev} (z : EvSm E) : ∀ {d : Nat} {x : Str} {w : P2}, WayAt pl E d x w → SmP (2 * eSz + 1 + 2 * d) w
  | 0, _, _, h => h.elim
  | d + 1, x, w, h => by
    obtain ⟨i, k, u, v, _, ⟨_, p, q, h1, h2, rfl⟩ | ⟨_, h1⟩ | ⟨_, w', h1, rfl⟩⟩ := h
    · have z1 : SmP eSz p := z _ _ h1
      have z2 : SmP eSz q := z _ _ h2
      exact (z1.way z2).mono (by omega)
    · exact (WayAt.sm z h1).mono (by omega)
    · exact (WayAt.sm z h1).left.mono (by omega)
end
section
variable {P : Program} {w : World} {K : PySem.W.Frag} {mg : Str → Option Value} {base : Heap} {CE CN : Addr}
abbrev s_way_by : Stmt := top 54
theorem sc_way_by : FnScope ["sketch", "there", "name", "word", "own", "of", "way"] ["sketch", "there", "name"] (defScope s_way_by) := ⟨rfl, rfl, rfl, by decide +kernel, rfl, by decide +kernel, by decide +kernel⟩
def spWayBy (CE : Addr) (d : Nat) : Sp := fun vs H Q _ => ∃ (v u : V) (pl : Pl) (E : Ev) (x : Str) (p : P2), vs = [v, u, .str x] ∧ PlA pl H v ∧ pl.length ≤ 100 ∧ pl.names.Nodup ∧ ThereA CE E H u ∧ EvSm E ∧ WayAt pl E d x p ∧ ∀ r H', Same H H' → PtA CE p H' r → Q r H'
theorem ok_way_by (c_step_at : Cal P w K mg base CX0 1 "step_at" ["sketch", "name"] spStepAt) (c_way_between : Cal P w K mg base CX0 41 "way_between" ["p", "q"] (spWay CE)) (c_leftwards : Cal P w K mg base CX0 42 "leftwards" ["way"] (spLeft CE)) (F : FnAt K mg "way_by" s_way_by) :
    ∀ d : Nat, d ≤ 1000 → Cal P w K mg base CX0 (42 + d) "way_by" ["sketch", "there", "name"] (spWayBy CE d)
  | 0, _ => by
    refine Cal.of0 F sc_way_by (fun _ _ _ _ _ _ us hl => match us, hl with | [_, _, _], _ => rfl) (fun vs H Q E h => ?_) (fun f cdv A outer s H vs Q E hr h => ?_)
    · obtain ⟨v, u, pl, E, x, p, rfl, _⟩ := h
      rfl
    · obtain ⟨v, u, pl, E, x, p, rfl, _, _, _, _, _, h, _⟩ := h
      exact h.elim
  | d + 1, hd => by
    have c_way_by := ok_way_by c_step_at c_way_between c_leftwards F d (by omega)
    refine Cal.of0 F sc_way_by (fun _ _ _ _ _ _ us hl => match us, hl with | [_, _, _], _ => rfl) (fun vs H Q E h => ?_) (fun f cdv A outer s H vs Q E hr h => ?_)
    · obtain ⟨v, u, pl, E, x, p, rfl, _⟩ := h
      rfl
    · obtain ⟨v, u, pl, E, x, p, rfl, hp, hl, hn, ht, zE, hw, k⟩ := h
      have hu : (A.deeper (envOfC "way_by" (defScope s_way_by) s.heap.objs.size f cdv)).units + 1 < cLine := by
        have := hr.un
        omega
      have eE : eSz = 20000 := rfl
      have zp := hw.sm zE
      have hr : Room (42 + d) (A.deeper (envOfC "way_by" (defScope s_way_by) s.heap.objs.size f cdv)) := hr
      obtain ⟨i, bn, n1, n2, hi, hw⟩ := hw
      refine ⟨_, (pss_cons (ps_asg (pe_ix ix_tup (pv 0) (pe_c c_step_at (hr.mono (by omega)) (pa_cons (pv 0) (pa_cons (pv 2) pa_nil))) (fun _ _ => rfl)) (pg_star (i := 2) rfl (pgs_cons (pg_name (i := 3) sc_way_by.nd rfl (.inl rfl)) (pgs_cons (pg_name (i := 4) sc_way_by.nd rfl (.inl rfl)) (pgs_st (pgs_cons (pg_name (i := 5) sc_way_by.nd rfl (.inl rfl)) pgs_nil))))))
        (pss_cons (ps_if (pt_cmpR op_eq (pv 3) pe_str (nomark _)) (pss_one (ps_ret (pe_c c_way_between (hr.mono (by omega)) (pa_cons (pe_dget hu (pv 1) (pe_ix ix_list (pv 5) pe_int (fun _ _ => rfl)) (fun _ _ => rfl)) (pa_cons (pe_dget hu (pv 1) (pe_ix ix_list (pv 5) pe_int (fun _ _ => rfl)) (fun _ _ => rfl)) pa_nil))))) pss_nil)
        (pss_cons (ps_set (i := 6) sc_way_by.nd rfl (.inl rfl) (pe_c c_way_by hr (pa_cons (pv 0) (pa_cons (pv 1) (pa_cons (pe_ix ix_list (pv 5) pe_int (fun _ _ => rfl)) pa_nil)))))
        (pss_one (ps_ret (pe_ifExp (pt_cmpR op_eq (pv 3) pe_str (nomark _)) (pv 6) (pe_c c_leftwards (hr.mono (by omega)) (pa_cons (pv 6) pa_nil)))))))), ?_⟩
      refine ⟨_, rfl, _, rfl, _, rfl, v, pl, i, x, _, rfl, hp, hl, hn, hi, fun H1 s1 => ?_⟩
      obtain ⟨a, ts, rfl, ha, he⟩ := mo_pl _ _ _ s1 hp
      obtain ⟨t, g1, b, rfl, g2⟩ := he.2 i _ hi
      refine ⟨a, ts, i, _, rfl, rfl, SqT.of ha, atI_nat g1, b, _, rfl, .inl (SqT.of g2), by show 2 ≤ 4; decide, by show 4 ≤ 16384; decide, fun D hD => ?_⟩
      refine ⟨_, _, rfl, _, _, rfl, _, _, rfl, rfl, ?_⟩
      have s2 := s1.trans (same_new (o := .lst [.str n1, .str n2]) hD)
      have hD2 : upd H1 D (.lst [.str n1, .str n2]) D = some (.lst [.str n1, .str n2]) := upd_same
      have ht2 := mo_there _ _ _ s2 ht
      have l1 : ∀ {σ : L2.St}, σ[5]? = some (some (.ref D)) → EG (fun _ u => u = V.str n1) (tOp (rIxL K) (tVar 5) (tC (.int 0))) σ (upd H1 D (.lst [.str n1, .str n2])) := fun h => eg_lx (k := 0) h hD2 rfl mo_str rfl
      have l2 : ∀ {σ : L2.St}, σ[5]? = some (some (.ref D)) → EG (fun _ u => u = V.str n2) (tOp (rIxL K) (tVar 5) (tC (.int 1))) σ (upd H1 D (.lst [.str n1, .str n2])) := fun h => eg_lx (k := 1) h hD2 rfl mo_str rfl
      refine ⟨_, rfl, rfl, _, rfl, ?_⟩
      rcases hw with ⟨rfl, q1, q2, h1, h2, rfl⟩ | ⟨rfl, h1⟩ | ⟨rfl, w', h1, rfl⟩
      · refine yes (strYes rfl) ?_
        have z1 : SmP eSz q1 := zE _ _ h1
        have z2 : SmP eSz q2 := zE _ _ h2
        exact (eg_way (eg_there rfl ht2 (thg_some h1) (l1 rfl)) (eg_there rfl ht2 (thg_some h2) (l2 rfl)) z1 z2 (by omega)).run fun r H3 s3 h3 => k r H3 (s2.trans s3) h3
      · refine no (strNo (show Bn.along.word ≠ "line" by decide +kernel)) ?_
        refine ⟨_, rfl, _, rfl, ?_⟩
        refine (l2 rfl).run fun r H3 s3 e3 => ?_
        subst e3
        refine ⟨_, _, pl, E, n2, p, rfl, mo_pl _ _ _ (s2.trans s3) hp, hl, hn, mo_there _ _ _ s3 ht2, zE, h1, fun r H4 s4 h4 => ?_⟩
        refine ⟨_, rfl, rfl, _, rfl, ?_⟩
        refine yes (strYes rfl) ?_
        exact ⟨_, rfl, k r H4 ((s2.trans s3).trans s4) h4⟩
      · refine no (strNo (show Bn.upright.word ≠ "line" by decide +kernel)) ?_
        refine ⟨_, rfl, _, rfl, ?_⟩
        refine (l2 rfl).run fun r H3 s3 e3 => ?_
        subst e3
        refine ⟨_, _, pl, E, n2, w', rfl, mo_pl _ _ _ (s2.trans s3) hp, hl, hn, mo_there _ _ _ s3 ht2, zE, h1, fun r H4 s4 h4 => ?_⟩
        refine ⟨_, rfl, rfl, _, rfl, ?_⟩
        refine no (strNo (show Bn.upright.word ≠ "along" by decide +kernel)) ?_
        exact (eg_left (eg_var rfl mo_pt h4) (h1.sm zE) (by omega)).run fun r H5 s5 h5 => k r H5 (((s2.trans s3).trans s4).trans s5) h5
end
end Ph
set_option linter.all false
set_option maxRecDepth 100000
set_option maxHeartbeats 40000000
set_option exponentiation.threshold 500
namespace Ph
open PySem PySem.Spec PyProof.Rows L2 LamX
/-! ### comprehensions, told by what comes out -/
/-- n values are drawn, of the i-th B i holds; nothing that stood is changed -/
def IG (n : Nat) (B : Nat → Ap) (wi : TI) (σ : L2.St) (H : Hp) : Prop := ∀ H1, Same H H1 → ∀ R : It → Hp → Prop, (∀ J H2, Same H1 H2 → Walk J n (fun H' => Same H2 H') (fun i H' v H3 => Same H' H3 ∧ B i H3 v) → R J H2) → wi σ H1 R
def TpA (n : Nat) (B : Nat → Ap) : Ap := fun H v => ∃ a xs, v = .ref a ∧ H a = some (.tup xs) ∧ xs.length = n ∧ ∀ i, i < n → ∃ y, xs[i]? = some y ∧ B i H y
def LsA (n : Nat) (B : Nat → Ap) : Ap := fun H v => ∃ a xs, v = .ref a ∧ H a = some (.lst xs) ∧ xs.length = n ∧ ∀ i, i < n → ∃ y, xs[i]? = some y ∧ B i H y
section
variable {K : PySem.W.Frag} {n : Nat} {A B : Nat → Ap} {σ : L2.St} {H : Hp} {te : TE}
theorem mo_lsA (mo : ∀ i, Mo (A i)) : Mo (LsA n A) := fun _ _ _ s ⟨a, xs, e, h, l, k⟩ => ⟨a, xs, e, s _ _ h, l, fun i lt => let ⟨y, p, q⟩ := k i lt; ⟨y, p, mo i _ _ _ s q⟩⟩
theorem mo_tpA (mo : ∀ i, Mo (A i)) : Mo (TpA n A) := fun _ _ _ s ⟨a, xs, e, h, l, k⟩ => ⟨a, xs, e, s _ _ h, l, fun i lt => let ⟨y, p, q⟩ := k i lt; ⟨y, p, mo i _ _ _ s q⟩⟩
theorem mi_tpA (mo : ∀ i, MoI (A i)) : MoI (TpA n A) := fun _ _ _ s ⟨a, xs, e, h, l, k⟩ => ⟨a, xs, e, s _ _ h True.intro, l, fun i lt => let ⟨y, p, q⟩ := k i lt; ⟨y, p, mo i _ _ _ s q⟩⟩
theorem ig_tup (mo : ∀ i, Mo (B i)) (e : EG (TpA n B) te σ H) : IG n B (iTup K te) σ H := fun H1 s R k => e H1 s _ fun v H2 s2 ⟨a, xs, ev, ha, hl, hb⟩ =>
  ⟨a, ev, ⟨xs, SqT.of ha⟩, k _ _ s2 ⟨fun i H' lt s3 => ⟨xs, xs[i], SqT.of (s3 _ _ ha), by simp [hl, lt]⟩, fun H' s3 => ⟨xs, SqT.of (s3 _ _ ha), Nat.le_of_eq hl⟩, fun i H' x H3 lt s3 y => by
    obtain ⟨rfl, y⟩ := y
    obtain ⟨z, e1, e2⟩ := hb i lt
    obtain rfl : z = x := Option.some.inj (e1.symm.trans (y xs (SqT.of (s3 _ _ ha))))
    exact ⟨Same.refl _, mo i _ _ _ s3 e2⟩⟩⟩
theorem ig_list (mo : ∀ i, Mo (B i)) (e : EG (LsA n B) te σ H) : IG n B (iList K te) σ H := fun H1 s R k => e H1 s _ fun v H2 s2 ⟨a, xs, ev, ha, hl, hb⟩ =>
  ⟨a, ev, ⟨xs, SqL.of ha⟩, k _ _ s2 ⟨fun i H' lt s3 => ⟨xs, xs[i], SqL.of (s3 _ _ ha), by simp [hl, lt]⟩, fun H' s3 => ⟨xs, SqL.of (s3 _ _ ha), Nat.le_of_eq hl⟩, fun i H' x H3 lt s3 y => by
    obtain ⟨rfl, y⟩ := y
    obtain ⟨z, e1, e2⟩ := hb i lt
    obtain rfl : z = x := Option.some.inj (e1.symm.trans (y xs (SqL.of (s3 _ _ ha))))
    exact ⟨Same.refl _, mo i _ _ _ s3 e2⟩⟩⟩
theorem eg_comp {wi : TI} {g : TG} {vs : List Nat} (ig : IG n B wi σ H) (hn : n ≤ 16384) (mi : ∀ i, MoI (A i))
    (hg : ∀ i v H', Same H H' → i < n → B i H' v → ∃ σ2, (∀ Q : L2.St → Hp → Prop, Q σ2 H' → g v (wipe σ vs) H' Q) ∧ wipe σ2 vs = wipe σ vs ∧ EG (A i) te σ2 H') : EG (LsA n A) (tLc wi g tYes te vs) σ H := by
  intro H1 s Q k
  refine ig H1 s _ fun J H2 s2 w D hD => ?_
  refine lc_it w (fun i H' => Same H2 H' ∧ ∃ acc, H' D = some (.lst acc) ∧ acc.length = i ∧ ∀ j, j < i → ∃ y, acc[j]? = some y ∧ A j H' y) ⟨same_new hD, [], upd_same, rfl, fun j lt => absurd lt (Nat.not_lt_zero j)⟩ (fun i H' _ h => h.1) (fun i x H' H3 lt h y => ?_) fun H' h => ?_
  · obtain ⟨s3, acc, ha, hl, hb⟩ := h
    obtain ⟨s4, hB⟩ := y
    obtain ⟨σ2, h1, h2, h3⟩ := hg i x H3 (((s.trans s2).trans s3).trans s4) lt hB
    refine h1 _ ⟨h2, ?_⟩
    refine h3.run fun y H4 s5 hy => ⟨acc, s5 _ _ (s4 _ _ ha), by rw [sizeLine_eq]; omega, ?_⟩
    have e4 : H4 D = some (.lst acc) := s5 _ _ (s4 _ _ ha)
    have si : SameI H4 (upd H4 D (.lst (acc ++ [y]))) := SameI.put e4 (fun z => z)
    refine ⟨same_put ((s3.trans s4).trans s5) hD, acc ++ [y], upd_same, by simp [hl], fun j lj => ?_⟩
    by_cases e : j = i
    · subst e
      exact ⟨y, by rw [← hl]; simp, mi _ _ _ _ si hy⟩
    · obtain ⟨z, e1, e2⟩ := hb j (by omega)
      exact ⟨z, by rw [List.getElem?_append_left (by omega)]; exact e1, mi _ _ _ _ (((SameI.of s4).trans (SameI.of s5)).trans si) e2⟩
  · obtain ⟨s3, acc, ha, hl, hb⟩ := h
    exact k _ H' (s2.trans s3) ⟨D, acc, rfl, ha, hl, hb⟩
/-- tuple(a list) -/
theorem eg_tuple {r : TE} (e : EG (LsA n A) te σ H) (mo : ∀ i, Mo (A i)) (hr : r = tCB (fun xs H Q => ∃ p ys, xs = [.ref p] ∧ ((SqL K H p ys ∧ ∀ l, H l = none → Q (.ref l) (upd H l (.tup ys))) ∨ (SqT K H p ys ∧ Q (.ref p) H))) (tCons te tNil)) : EG (TpA n A) r σ H := by
  subst hr
  intro H1 s Q k
  refine e H1 s _ fun v H2 s2 ⟨a, xs, ev, ha, hl, hb⟩ => ⟨a, xs, by rw [ev], .inl ⟨SqL.of ha, fun l hn => ?_⟩⟩
  have s3 := same_new (o := .tup xs) hn
  exact k _ _ (s2.trans s3) ⟨l, xs, rfl, upd_same, hl, fun i lt => let ⟨y, p, q⟩ := hb i lt; ⟨y, p, mo i _ _ _ s3 q⟩⟩
end
theorem pt_tp {CE : Addr} {p : P2} {H : Hp} {v : V} (h : PtA CE p H v) : TpA 2 (fun i => Nm CE (if i = 0 then p.1 else p.2)) H v := by
  obtain ⟨a, x, y, e, ha, h1, h2⟩ := h
  refine ⟨a, _, e, ha, rfl, fun i lt => ?_⟩
  match i, lt with
  | 0, _ => exact ⟨x, rfl, h1⟩
  | 1, _ => exact ⟨y, rfl, h2⟩
section
variable {P : Program} {w : World} {K : PySem.W.Frag} {mg : Str → Option Value} {base : Heap} {CE CN : Addr}
abbrev s_place_on : Stmt := top 55
theorem sc_place_on : FnScope ["sketch", "there", "name", "number", "base", "far", "part"] ["sketch", "there", "name", "number"] (defScope s_place_on) := ⟨rfl, rfl, rfl, by decide +kernel, rfl, by decide +kernel, by decide +kernel⟩
def spPlaceOn (CE : Addr) (d : Nat) : Sp := fun vs H Q _ => ∃ (v u y : V) (pl : Pl) (E : Ev) (i : Nat) (x : Str) (k : Bn) (n1 n2 : Str) (b p : P2) (t : Rat), vs = [v, u, .str x, y] ∧ PlA pl H v ∧ pl.length ≤ 100 ∧ pl.names.Nodup ∧ ThereA CE E H u ∧ EvSm E ∧
  pl[i]? = some (x, .two k n1 n2) ∧ thg E n1 = some (.pt b) ∧ WayAt pl E d x p ∧ Num CE H y t ∧ Sm 64 t ∧ ∀ r H', Same H H' → PtA CE (goneP b p t) H' r → Q r H'
theorem ok_place_on {d : Nat} (hd : d ≤ 1000) (B : Bl mg) (X : Mts P w K mg base CE) (c_must_agree : Cal P w K mg base CX0 40 "must_agree" ["things"] (spAgree CE)) (c_base_of : Cal P w K mg base CX0 2 "base_of" ["sketch", "name"] spBaseOf) (c_way_by : Cal P w K mg base CX0 (42 + d) "way_by" ["sketch", "there", "name"] (spWayBy CE d)) (F : FnAt K mg "place_on" s_place_on) :
    Cal P w K mg base CX0 (43 + d) "place_on" ["sketch", "there", "name", "number"] (spPlaceOn CE d) := by
  rw [show 43 + d = 42 + d + 1 by omega]
  refine Cal.of0 F sc_place_on (fun _ _ _ _ _ _ us hl => match us, hl with | [_, _, _, _], _ => rfl) (fun vs H Q E h => ?_) (fun f cdv A outer s H vs Q E hr h => ?_)
  · obtain ⟨v, u, y, pl, E, i, x, k, n1, n2, b, p, t, rfl, _⟩ := h
    rfl
  · obtain ⟨v, u, y, pl, E, i, x, bn, n1, n2, b, p, t, rfl, hp, hl, hn, ht, zE, hi, hb, hw, hy, zt, k⟩ := h
    have hu : (A.deeper (envOfC "place_on" (defScope s_place_on) s.heap.objs.size f cdv)).units + 1 < cLine := by
      have := hr.un
      omega
    have hr : Room (42 + d) (A.deeper (envOfC "place_on" (defScope s_place_on) s.heap.objs.size f cdv)) := hr
    have eE : eSz = 20000 := rfl
    have zp := hw.sm zE
    have zb : SmP eSz b := zE _ _ hb
    have m_plus := X.plus
    have m_times := X.times
    have T := X.T
    refine ⟨_, (pss_cons (ps_set (i := 4) sc_place_on.nd rfl (.inl rfl) (pe_dget hu (pv 1) (pe_c c_base_of (hr.mono (by omega)) (pa_cons (pv 0) (pa_cons (pv 2) pa_nil))) (fun _ _ => rfl)))
      (pss_cons (ps_setLc (i := 5) (own := [("part", 6)]) (g := gName 6) (te := tMeth CE "times" (spBin CE CAdd (· * ·)) [] E0 (tVar 6) (tCons (tVar 3) tNil)) (by rfl) sc_place_on.nd rfl rfl (sw_true rfl rfl rfl (by decide +kernel)) (pi_tup (pe_c c_way_by hr (pa_cons (pv 0) (pa_cons (pv 1) (pa_cons (pv 2) pa_nil))))) (blkOk_by (own := [("part", 6)]) (N := ["sketch", "there", "name", "number", "base", "far", "part"]) (sc := defScope s_place_on) (by decide +kernel))
          (fun _ _ _ _ _ => pg_name (i := 6) sc_place_on.nd rfl (by first | exact Or.inl rfl | exact Or.inr rfl)) (fun _ _ _ _ _ => pts_nil) (fun _ _ _ _ _ => pe_mt m_times T.cl (hr.mono (by omega)) (pv 6) (pa_cons (pv 3) pa_nil)))
      (pss_cons (ps_expr (pe_c c_must_agree (hr.mono (by omega)) (pa_cons (pe_tup (pa_cons (pv 4) (pa_cons (pe_callTy call_tuple_of (by rfl) B.tuple (by decide +kernel) (pa_cons (pv 5) pa_nil)) pa_nil))) pa_nil)))
      (pss_one (ps_ret (pe_tup (pa_cons (pe_mt m_plus T.cl (hr.mono (by omega)) (pe_ix ix_tup (pv 4) pe_int (fun _ _ => rfl)) (pa_cons (pe_ix ix_list (pv 5) pe_int (fun _ _ => rfl)) pa_nil)) (pa_cons (pe_mt m_plus T.cl (hr.mono (by omega)) (pe_ix ix_tup (pv 4) pe_int (fun _ _ => rfl)) (pa_cons (pe_ix ix_list (pv 5) pe_int (fun _ _ => rfl)) pa_nil)) pa_nil)))))))), ?_⟩
    have e1 : EG (ThO CE (some (.pt b))) (tDGet (tVar 1) (tCall spBaseOf [] E0 (tCons (tVar 0) (tCons (tVar 2) tNil)))) (start ["sketch", "there", "name", "number", "base", "far", "part"] [v, u, .str x, y]) H :=
      eg_there rfl ht (thg_some hb) (fun H1 s Q q => ⟨_, rfl, _, rfl, v, pl, i, x, _, n1, rfl, mo_pl _ _ _ s hp, hl, hn, hi, rfl, fun H2 s2 => q _ H2 s2 rfl⟩)
    refine e1.run fun v1 H1 s1 h1 => ?_
    unfold gName
    dsimp only
    unfold tSeq
    dsimp only
    unfold tAsg
    dsimp only [List.map]
    have e2 : EG (LsA 2 (fun i => Nm CE (if i = 0 then p.1 * t else p.2 * t))) (tLc (iTup K (tCall (spWayBy CE d) [] E0 (tCons (tVar 0) (tCons (tVar 1) (tCons (tVar 2) tNil))))) (gName 6) tYes (tMeth CE "times" (spBin CE CAdd (· * ·)) [] E0 (tVar 6) (tCons (tVar 3) tNil)) [6]) [some v, some u, some (.str x), some y, some v1, none, none] H1 := by
      refine eg_comp (B := fun i => Nm CE (if i = 0 then p.1 else p.2)) (ig_tup (fun i => mo_num) (fun H2 s2 Q q => ⟨_, rfl, _, rfl, _, rfl, v, u, pl, E, x, p, rfl, mo_pl _ _ _ (s1.trans s2) hp, hl, hn, mo_there _ _ _ (s1.trans s2) ht, zE, hw, fun r H3 s3 h3 => q r H3 s3 (pt_tp h3)⟩)) (by decide) (fun i => mi_num) (fun i z H2 s2 lt hz => ⟨_, fun Q q => q, rfl, ?_⟩)
      have hz : Num CE H2 z (if i = 0 then p.1 else p.2) := hz
      have zz : Sm (2 * eSz + 1 + 2 * d) (if i = 0 then p.1 else p.2) := by
        split
        · exact zp.1
        · exact zp.2
      have e3 := eg_times (σ := [some v, some u, some (.str x), some y, some v1, none, some z]) (E := E0) (eg_var (i := 6) rfl mo_num hz) (eg_var (i := 3) rfl mo_num (hy.ext (s1.trans s2))) zz zt (by show 2 * eSz + 1 + 2 * d + 64 + 1 ≤ 4000000; omega)
      refine e3.imp fun H' r hr => ?_
      have ei : (if i = 0 then p.1 else p.2) * t = if i = 0 then p.1 * t else p.2 * t := by split <;> rfl
      exact ei ▸ hr
    refine e2.run fun v2 H2 s2 h2 => ?_
    obtain ⟨fa, fs, rfl, hfa, hfl, hfs⟩ := h2
    obtain ⟨f0, g0, n0⟩ := hfs 0 (by decide)
    obtain ⟨f1, g1, n1'⟩ := hfs 1 (by decide)
    have h12 := mo_pt _ _ _ s2 (show PtA CE b H1 v1 from h1)
    have e4 : EG (fun _ v => v = .non) (tCall (spAgree CE) [] E0 (tCons (tTup (tCons (tVar 4) (tCons (tCB (fun xs H Q => ∃ p ys, xs = [.ref p] ∧ ((SqL K H p ys ∧ ∀ l, H l = none → Q (.ref l) (upd H l (.tup ys))) ∨ (SqT K H p ys ∧ Q (.ref p) H))) (tCons (tVar 5) tNil)) tNil))) tNil)) [some v, some u, some (.str x), some y, some v1, some (.ref fa), none] H2 := by
      refine eg_f1 (A := RL CE 4) (fun v H1 Q a k => ⟨v, rfl, a, fun H' s => k _ H' s rfl⟩) ((eg_t2 (A := PtA CE b) (B := TpA 2 (fun i => Nm CE (if i = 0 then p.1 * t else p.2 * t))) mo_pt (mo_tpA fun i => mo_num) (eg_var rfl mo_pt h12) (eg_tuple (eg_var rfl (mo_lsA fun i => mo_num) ⟨fa, fs, rfl, hfa, hfl, hfs⟩) (fun i => mo_num) rfl)).imp fun H' r hr => ?_)
      obtain ⟨a, q1, q2, rfl, ha, k1, a2, ys, rfl, ha2, hl2, k2⟩ := hr
      refine rl_pair ha (rl_pt k1) (.inr ⟨a2, ys, rfl, .inl ha2, by omega, fun z hz => ?_⟩)
      obtain ⟨j, hj⟩ := List.getElem?_of_mem hz
      obtain ⟨y, e1, e2⟩ := k2 j (by rw [← hl2]; exact (List.getElem?_eq_some_iff.mp hj).1)
      obtain rfl : y = z := Option.some.inj (e1.symm.trans hj)
      exact rl_num e2
    refine e4.run fun _ H3 s3 _ => ?_
    have h13 := mo_pt _ _ _ s3 h12
    have z0 : Sm (2 * eSz + 1 + 2 * d + 64) (p.1 * t) := zp.1.mul zt
    have z1 : Sm (2 * eSz + 1 + 2 * d + 64) (p.2 * t) := zp.2.mul zt
    have cc : CAdd eSz (2 * eSz + 1 + 2 * d + 64) := by show eSz + (2 * eSz + 1 + 2 * d + 64) + 1 ≤ 4000000; omega
    refine (eg_pt (eg_plus (E := E0) (eg_x rfl h13) (eg_lx (k := 0) rfl (s3 _ _ hfa) g0 mo_num ((show Num CE H2 f0 (p.1 * t) from n0).ext s3)) zb.1 z0 cc) (eg_plus (E := E0) (eg_y rfl h13) (eg_lx (k := 1) rfl (s3 _ _ hfa) g1 mo_num ((show Num CE H2 f1 (p.2 * t) from n1').ext s3)) zb.2 z1 cc)).run fun r H4 s4 h4 => k r H4 (((s1.trans s2).trans s3).trans s4) h4
abbrev s_place_round : Stmt := top 56
theorem sc_place_round : FnScope ["sketch", "there", "name", "number", "word", "own", "middle", "first", "way", "square", "below", "ahead"] ["sketch", "there", "name", "number"] (defScope s_place_round) := ⟨rfl, rfl, rfl, by decide +kernel, rfl, by decide +kernel, by decide +kernel⟩
def onP (m p : P2) (t : Rat) : P2 := goneP (goneP m (wayB m p) ((1 - t * t) / (1 + t * t))) (leftP (wayB m p)) ((t + t) / (1 + t * t))
theorem one_sq (t : Rat) : (1 : Rat) + t * t ≠ 0 := fun z => by
  have h := sq0 (x := 1) (y := t) (by grind)
  exact absurd h.1 (by decide)
theorem sm_one : Sm 2 ((1 : Int) : Rat) := sm_int (by decide) (by decide)
def spPlaceRound (CE : Addr) : Sp := fun vs H Q _ => ∃ (v u y : V) (pl : Pl) (E : Ev) (i : Nat) (x : Str) (n1 n2 : Str) (b p : P2) (t : Rat), vs = [v, u, .str x, y] ∧ PlA pl H v ∧ pl.length ≤ 100 ∧ pl.names.Nodup ∧ ThereA CE E H u ∧ EvSm E ∧
  pl[i]? = some (x, .two .circle n1 n2) ∧ thg E n1 = some (.pt b) ∧ thg E n2 = some (.pt p) ∧ Num CE H y t ∧ Sm 64 t ∧ ∀ r H', Same H H' → PtA CE (onP b p t) H' r → Q r H'
theorem ok_place_round (X : Mts P w K mg base CE) (c_step_at : Cal P w K mg base CX0 1 "step_at" ["sketch", "name"] spStepAt) (c_way_between : Cal P w K mg base CX0 41 "way_between" ["p", "q"] (spWay CE)) (c_leftwards : Cal P w K mg base CX0 42 "leftwards" ["way"] (spLeft CE))
    (c_gone : Cal P w K mg base CX0 40 "gone" ["p", "way", "often"] (spGone CE)) (F : FnAt K mg "place_round" s_place_round) : Cal P w K mg base CX0 43 "place_round" ["sketch", "there", "name", "number"] (spPlaceRound CE) := by
  refine Cal.of0 F sc_place_round (fun _ _ _ _ _ _ us hl => match us, hl with | [_, _, _, _], _ => rfl) (fun vs H Q E h => ?_) (fun f cdv A outer s H vs Q E hr h => ?_)
  · obtain ⟨v, u, y, pl, E, i, x, n1, n2, b, p, t, rfl, _⟩ := h
    rfl
  · obtain ⟨v, u, y, pl, E, i, x, n1, n2, b, p, t, rfl, hp, hl, hn, ht, zE, hi, hb, hq, hy, zt, k⟩ := h
    have hu : (A.deeper (envOfC "place_round" (defScope s_place_round) s.heap.objs.size f cdv)).units + 1 < cLine := by
      have := hr.un
      omega
    have eE : eSz = 20000 := rfl
    have zb : SmP eSz b := zE _ _ hb
    have zq : SmP eSz p := zE _ _ hq
    have M := X.M
    have m_plus := X.plus
    have m_times := X.times
    have m_minus := X.minus
    have m_by := X.by_
    have T := X.T
    refine ⟨_, (pss_cons (ps_asg (pe_ix ix_tup (pv 0) (pe_c c_step_at (hr.mono (by omega)) (pa_cons (pv 0) (pa_cons (pv 2) pa_nil))) (fun _ _ => rfl)) (pg_tup rfl (pgs_cons (pg_name (i := 4) sc_place_round.nd rfl (by first | exact Or.inl rfl | exact Or.inr rfl)) (pgs_cons (pg_name (i := 5) sc_place_round.nd rfl (by first | exact Or.inl rfl | exact Or.inr rfl)) (pgs_cons (pg_name (i := 6) sc_place_round.nd rfl (by first | exact Or.inl rfl | exact Or.inr rfl)) (pgs_cons (pg_name (i := 7) sc_place_round.nd rfl (by first | exact Or.inl rfl | exact Or.inr rfl)) pgs_nil))))))
      (pss_cons (ps_set (i := 8) sc_place_round.nd rfl (by first | exact Or.inl rfl | exact Or.inr rfl) (pe_c c_way_between (hr.mono (by omega)) (pa_cons (pe_dget hu (pv 1) (pv 6) (fun _ _ => rfl)) (pa_cons (pe_dget hu (pv 1) (pv 7) (fun _ _ => rfl)) pa_nil))))
      (pss_cons (ps_set (i := 9) sc_place_round.nd rfl (by first | exact Or.inl rfl | exact Or.inr rfl) (pe_mt m_times T.cl (hr.mono (by omega)) (pv 3) (pa_cons (pv 3) pa_nil)))
      (pss_cons (ps_set (i := 10) sc_place_round.nd rfl (by first | exact Or.inl rfl | exact Or.inr rfl) (pe_mt m_plus T.cl (hr.mono (by omega)) (pe_e1 M T (hr.mono (by omega)) (pa_cons pe_int pa_nil)) (pa_cons (pv 9) pa_nil)))
      (pss_cons (ps_set (i := 11) sc_place_round.nd rfl (by first | exact Or.inl rfl | exact Or.inr rfl) (pe_c c_gone (hr.mono (by omega)) (pa_cons (pe_dget hu (pv 1) (pv 6) (fun _ _ => rfl)) (pa_cons (pv 8) (pa_cons (pe_mt m_by T.cl (hr.mono (by omega)) (pe_mt m_minus T.cl (hr.mono (by omega)) (pe_e1 M T (hr.mono (by omega)) (pa_cons pe_int pa_nil)) (pa_cons (pv 9) pa_nil)) (pa_cons (pv 10) pa_nil)) pa_nil)))))
      (pss_one (ps_ret (pe_c c_gone (hr.mono (by omega)) (pa_cons (pv 11) (pa_cons (pe_c c_leftwards (hr.mono (by omega)) (pa_cons (pv 8) pa_nil)) (pa_cons (pe_mt m_by T.cl (hr.mono (by omega)) (pe_mt m_plus T.cl (hr.mono (by omega)) (pv 3) (pa_cons (pv 3) pa_nil)) (pa_cons (pv 10) pa_nil)) pa_nil))))))))))), ?_⟩
    refine ⟨_, rfl, _, rfl, _, rfl, v, pl, i, x, _, rfl, hp, hl, hn, hi, fun H1 s1 => ?_⟩
    obtain ⟨a, ts, rfl, ha, he⟩ := mo_pl _ _ _ s1 hp
    obtain ⟨t', g1, c, rfl, g2⟩ := he.2 i _ hi
    refine ⟨a, ts, i, _, rfl, rfl, SqT.of ha, atI_nat g1, c, _, rfl, SqT.of g2, rfl, ?_⟩
    refine ⟨_, _, rfl, _, _, rfl, _, _, rfl, _, _, rfl, rfl, ?_⟩
    have ht1 := mo_there _ _ _ s1 ht
    refine (eg_way (E := E0) (eg_there rfl ht1 (thg_some hb) (eg_var rfl mo_str rfl)) (eg_there rfl ht1 (thg_some hq) (eg_var rfl mo_str rfl)) zb zq (by omega)).run fun v1 H2 s2 h2 => ?_
    have s12 := s1.trans s2
    have hy2 := hy.ext s12
    have ct : CAdd 64 64 := by show 64 + 64 + 1 ≤ 4000000; decide
    refine (eg_times (E := E0) (eg_var rfl mo_num hy2) (eg_var rfl mo_num hy2) zt zt ct).run fun v2 H3 s3 h3 => ?_
    have zs : Sm 128 (t * t) := zt.mul zt
    have cs : CAdd 2 128 := by show 2 + 128 + 1 ≤ 4000000; decide
    refine (eg_plus (E := E0) (eg_e1 i4_1) (eg_var rfl mo_num h3) sm_one zs cs).run fun v3 H4 s4 h4 => ?_
    have z4 : Sm 131 (((1 : Int) : Rat) + t * t) := sm_one.add zs
    have h0 : (((1 : Int) : Rat) + t * t) ≠ 0 := one_sq t
    have zw := zb.way zq
    have s34 := s3.trans s4
    have ht4 := mo_there _ _ _ s34 (mo_there _ _ _ s2 ht1)
    have hw4 := mo_pt _ _ _ s34 h2
    have h34 : Num CE H4 v2 (t * t) := Num.ext h3 s4
    have z5 : Sm 131 (((1 : Int) : Rat) - t * t) := sm_one.sub zs
    have cb : CBy 131 131 := by show 131 + 3 * 131 + 1 ≤ 4000000; decide
    have z6 := z5.div z4
    refine (eg_gone (E := E0) (eg_there rfl ht4 (thg_some hb) (eg_var rfl mo_str rfl)) (eg_var rfl mo_pt hw4) (eg_by (E := E0) (eg_minus (E := E0) (eg_e1 i4_1) (eg_var rfl mo_num h34) sm_one zs cs) (eg_var rfl mo_num h4) z5 z4 cb h0) zb zw z6 (by omega)).run fun v4 H5 s5 h5 => ?_
    have hw5 := mo_pt _ _ _ s5 hw4
    have hy5 := hy2.ext (s34.trans s5)
    have z7 : Sm 129 (t + t) := zt.add zt
    have z8 := z7.div z4
    refine (eg_gone (E := E0) (eg_var rfl mo_pt h5) (eg_left (E := E0) (eg_var rfl mo_pt hw5) zw (by omega)) (eg_by (E := E0) (eg_plus (E := E0) (eg_var rfl mo_num hy5) (eg_var rfl mo_num hy5) zt zt ct) (eg_var rfl mo_num (Num.ext h4 s5)) z7 z4 (by show 129 + 3 * 131 + 1 ≤ 4000000; decide) h0) (zb.gone zw z6) zw.left z8 (by omega)).run fun r H6 s6 h6 => k r H6 ((((s12.trans s34).trans s5)).trans s6) h6
end
end Ph
set_option linter.all false
set_option maxRecDepth 100000
set_option maxHeartbeats 40000000
set_option exponentiation.threshold 500
namespace Ph
open PySem PySem.Spec PyProof.Rows L2 LamX
/-! ### what a step makes -/
def mkB : Bn → Thg → Thg → Option Thg
  | .meet, .ln l _ _, .ln m _ _ => if crsP (dirL l) (dirL m) = 0 then none else some (.pt (meetP l m))
  | .middle, .pt p, .pt q => some (.pt (midP p q))
  | .foot, .pt p, .ln l _ _ => some (.pt (footP p l))
  | .mirror, .pt p, .ln l _ _ => some (.pt (mirP p l))
  | .line, .pt p, .pt q => if p = q then none else some (.ln (throughL p q) p (wayB p q))
  | .along, .pt p, .ln l _ w => some (.ln (alongL p l) p w)
  | .upright, .pt p, .ln l _ w => some (.ln (uprightL p l) p (leftP w))
  | .circle, .pt m, .pt p => if m = p then none else some (.ci m p)
  | _, _, _ => none
def FitB : Bn → Thg → Thg → Prop
  | .meet, .ln .., .ln .. => True
  | .middle, .pt _, .pt _ => True
  | .foot, .pt _, .ln .. => True
  | .mirror, .pt _, .ln .. => True
  | .line, .pt _, .pt _ => True
  | .along, .pt _, .ln .. => True
  | .upright, .pt _, .ln .. => True
  | .circle, .pt _, .pt _ => True
  | _, _, _ => False
def mkS (E : Ev) : Stp → List Rat → Option Thg
  | .free, [a, b] => some (.pt (a, b))
  | .on l, [t] => match thg E l with
    | some (.ln _ b w) => some (.pt (goneP b w t))
    | _ => none
  | .round c, [t] => match thg E c with
    | some (.ci m p) => some (.pt (onP m p t))
    | _ => none
  | .turn p q k, _ => match thg E p, thg E q with
    | some (.pt a), some (.pt b) => some (.pt (turnP a b k))
    | _, _ => none
  | .other l c p, _ => match thg E l, thg E c, thg E p with
    | some (.ln n _ _), some (.ci m _), some (.pt a) => some (.pt (othP n m a))
    | _, _, _ => none
  | .two b x y, _ => match thg E x, thg E y with
    | some s, some t => mkB b s t
    | _, _ => none
  | _, _ => none
def Stp.takes : Stp → Nat
  | .free => 2
  | .on _ => 1
  | .round _ => 1
  | _ => 0
/-- what a step names is there, of the sort that it asks for -/
def Fit (E : Ev) : Stp → Prop
  | .free => True
  | .on l => ∃ n b w, thg E l = some (.ln n b w)
  | .round c => ∃ m p, thg E c = some (.ci m p)
  | .turn p q k => k ≤ 3 ∧ ∃ a b, thg E p = some (.pt a) ∧ thg E q = some (.pt b)
  | .other l c p => ∃ n b w m q a, thg E l = some (.ln n b w) ∧ thg E c = some (.ci m q) ∧ thg E p = some (.pt a)
  | .two b x y => ∃ s t, thg E x = some s ∧ thg E y = some t ∧ FitB b s t
abbrev lvD : Nat := 20
structure EvOk (pl : Pl) (E : Ev) : Prop where
  sm : EvSm E
  ln : ∀ x l b w, thg E x = some (.ln l b w) → lineOk l ∧ (l.1 ≠ 0 ∨ l.2.1 ≠ 0) ∧ ∃ (i : Nat) (k : Bn) (n1 n2 : Str), pl[i]? = some (x, .two k n1 n2) ∧ thg E n1 = some (.pt b) ∧ WayAt pl E lvD x w
  ci : ∀ x m p, thg E x = some (.ci m p) → ∃ (i : Nat) (n1 n2 : Str), pl[i]? = some (x, .two .circle n1 n2) ∧ thg E n1 = some (.pt m) ∧ thg E n2 = some (.pt p)
def NsA (CE : Addr) (ns : List Rat) : Ap := fun H v => ∃ a vs, v = .ref a ∧ H a = some (.lst vs) ∧ Each (Nm CE) ns H vs
theorem mo_ns {CE : Addr} {ns : List Rat} : Mo (NsA CE ns) := fun _ _ _ s ⟨a, vs, e, h, k⟩ => ⟨a, vs, e, s _ _ h, k.same (fun _ => mo_num) s⟩
/-- the def's name of a way -/
def Bn.fn : Bn → Str
  | .meet => "lines_meet" | .middle => "middle_of" | .foot => "foot_of" | .mirror => "mirror_of" | .line => "line_through" | .along => "line_along" | .upright => "line_upright" | .circle => "circle_through"
structure Ways (K : PySem.W.Frag) (w : World) (mg : Str → Option Value) : Prop where
  ex : ∃ a es n, mg "PLAIN_WAYS" = some (.ref a) ∧ KDict K w a es n ∧ ∀ b : Bn, ∃ f, PySem.W.nsIn K a b.word = some (some (.ref f)) ∧ mg b.fn = some (.ref f)
def Bn.sp (CE CN : Addr) : Bn → Sp
  | .meet => spMeet CE | .middle => spMid CE | .foot => spFoot CE footP | .mirror => spFoot CE mirP | .line => spThrough CE CN | .along => spLine CE alongL | .upright => spLine CE uprightL | .circle => spCirc CE
/-- which def it is, and its promise -/
def WaySp (mg : Str → Option Value) (CE CN : Addr) (f : Addr) (sp : Sp) : Prop := ∃ b : Bn, mg b.fn = some (.ref f) ∧ sp = b.sp CE CN
theorem bw (b : Bn) : b.word ≠ "free" ∧ b.word ≠ "on" ∧ b.word ≠ "round" ∧ b.word ≠ "turn" ∧ b.word ≠ "cross" ∧ b.word ≠ "other" := by
  cases b <;> decide +kernel
theorem wd : (("on" : Str) ≠ "free") ∧ (("round" : Str) ≠ "free") ∧ (("round" : Str) ≠ "on") ∧ (("turn" : Str) ≠ "free") ∧ (("turn" : Str) ≠ "on") ∧ (("turn" : Str) ≠ "round") ∧ (("other" : Str) ≠ "free") ∧ (("other" : Str) ≠ "on") ∧ (("other" : Str) ≠ "round") ∧ (("other" : Str) ≠ "turn") ∧ (("other" : Str) ≠ "cross") := by decide +kernel
section
variable {P : Program} {w : World} {K : PySem.W.Frag} {mg : Str → Option Value} {base : Heap} {CE CN : Addr}
structure WayDefs (P : Program) (w : World) (K : PySem.W.Frag) (mg : Str → Option Value) (base : Heap) (CE CN : Addr) : Prop where
  meet : Cal P w K mg base CX0 42 "lines_meet" ["one", "other"] (spMeet CE)
  mid : Cal P w K mg base CX0 42 "middle_of" ["p", "q"] (spMid CE)
  foot : Cal P w K mg base CX0 42 "foot_of" ["p", "line"] (spFoot CE footP)
  mirr : Cal P w K mg base CX0 42 "mirror_of" ["p", "line"] (spFoot CE mirP)
  thr : Cal P w K mg base (L2.CX P w) 43 "line_through" ["p", "q"] (spThrough CE CN)
  along : Cal P w K mg base CX0 43 "line_along" ["p", "line"] (spLine CE alongL)
  upr : Cal P w K mg base CX0 43 "line_upright" ["p", "line"] (spLine CE uprightL)
  circ : Cal P w K mg base CX0 42 "circle_through" ["middle", "point"] (spCirc CE)
theorem WayDefs.held (D : WayDefs P w K mg base CE CN) {k : Nat} (hk : 43 ≤ k) (f : Addr) (sp : Sp) (h : WaySp mg CE CN f sp) : HeldX P w K mg base (L2.CX P w) k f sp := by
  obtain ⟨b, hm, rfl⟩ := h
  cases b with
  | meet => exact HeldX.of D.meet.up0 hm (by omega)
  | middle => exact HeldX.of D.mid.up0 hm (by omega)
  | foot => exact HeldX.of D.foot.up0 hm (by omega)
  | mirror => exact HeldX.of D.mirr.up0 hm (by omega)
  | line => exact HeldX.of D.thr hm hk
  | along => exact HeldX.of D.along.up0 hm hk
  | upright => exact HeldX.of D.upr.up0 hm hk
  | circle => exact HeldX.of D.circ.up0 hm (by omega)
/-- one of the eight, at two things that fit -/
theorem waySp_run {pl : Pl} {E : Ev} {b : Bn} {x y : Str} {s t : Thg} {H : Hp} {u v : V} {Q : VK} {EX : XK} (ok : EvOk pl E) (hx : thg E x = some s) (hy : thg E y = some t) (hu : ThO CE (some s) H u) (hv : ThO CE (some t) H v) (fit : FitB b s t)
    (kq : ∀ o, mkB b s t = some o → ∀ r H', Same H H' → o.A CE H' r → Q r H') (kn : mkB b s t = none → (∀ H', Same H H' → Q .non H') ∧ ∀ H', Same H H' → EX (.ref CN) none H') : b.sp CE CN [u, v] H Q EX := by
  have eE : eSz = 20000 := rfl
  have zs := ok.sm _ _ hx
  have zt := ok.sm _ _ hy
  cases b with
  | meet =>
    cases s with
    | pt _ => exact (show False by cases t <;> exact fit).elim
    | ci _ _ => exact (show False by cases t <;> exact fit).elim
    | ln p _ _ =>
      cases t with
      | pt _ => exact (show False from fit).elim
      | ci _ _ => exact (show False from fit).elim
      | ln q _ _ => exact ⟨u, v, p, q, eSz, rfl, hu, hv, zs, zt, by omega, fun h r H' s' hr => kq _ (if_neg h) r H' s' hr, fun h => (kn (if_pos h)).1⟩
  | middle =>
    cases s with
    | ln _ _ _ => exact (show False by cases t <;> exact fit).elim
    | ci _ _ => exact (show False by cases t <;> exact fit).elim
    | pt p =>
      cases t with
      | ln _ _ _ => exact (show False from fit).elim
      | ci _ _ => exact (show False from fit).elim
      | pt q => exact ⟨u, v, p, q, eSz, rfl, hu, hv, zs, zt, by omega, kq _ rfl⟩
  | foot =>
    cases s with
    | ln _ _ _ => exact (show False by cases t <;> exact fit).elim
    | ci _ _ => exact (show False by cases t <;> exact fit).elim
    | pt p =>
      cases t with
      | pt _ => exact (show False from fit).elim
      | ci _ _ => exact (show False from fit).elim
      | ln q _ _ => exact ⟨u, v, p, q, eSz, eSz, rfl, hu, hv, zs, zt, by omega, (ok.ln _ _ _ _ hy).1, kq _ rfl⟩
  | mirror =>
    cases s with
    | ln _ _ _ => exact (show False by cases t <;> exact fit).elim
    | ci _ _ => exact (show False by cases t <;> exact fit).elim
    | pt p =>
      cases t with
      | pt _ => exact (show False from fit).elim
      | ci _ _ => exact (show False from fit).elim
      | ln q _ _ => exact ⟨u, v, p, q, eSz, eSz, rfl, hu, hv, zs, zt, by omega, (ok.ln _ _ _ _ hy).1, kq _ rfl⟩
  | line =>
    cases s with
    | ln _ _ _ => exact (show False by cases t <;> exact fit).elim
    | ci _ _ => exact (show False by cases t <;> exact fit).elim
    | pt p =>
      cases t with
      | ln _ _ _ => exact (show False from fit).elim
      | ci _ _ => exact (show False from fit).elim
      | pt q => exact ⟨u, v, p, q, eSz, rfl, hu, hv, zs, zt, by omega, fun h r H' s' hr => kq _ (if_neg h) r H' s' hr, fun h => (kn (if_pos h)).2⟩
  | along =>
    cases s with
    | ln _ _ _ => exact (show False by cases t <;> exact fit).elim
    | ci _ _ => exact (show False by cases t <;> exact fit).elim
    | pt p =>
      cases t with
      | pt _ => exact (show False from fit).elim
      | ci _ _ => exact (show False from fit).elim
      | ln q _ _ => exact ⟨u, v, p, q, eSz, eSz, rfl, hu, hv, zs, zt, by omega, (ok.ln _ _ _ _ hy).2.1, kq _ rfl⟩
  | upright =>
    cases s with
    | ln _ _ _ => exact (show False by cases t <;> exact fit).elim
    | ci _ _ => exact (show False by cases t <;> exact fit).elim
    | pt p =>
      cases t with
      | pt _ => exact (show False from fit).elim
      | ci _ _ => exact (show False from fit).elim
      | ln q _ _ => exact ⟨u, v, p, q, eSz, eSz, rfl, hu, hv, zs, zt, by omega, (ok.ln _ _ _ _ hy).2.1, kq _ rfl⟩
  | circle =>
    cases s with
    | ln _ _ _ => exact (show False by cases t <;> exact fit).elim
    | ci _ _ => exact (show False by cases t <;> exact fit).elim
    | pt p =>
      cases t with
      | ln _ _ _ => exact (show False from fit).elim
      | ci _ _ => exact (show False from fit).elim
      | pt q => exact ⟨u, v, p, q, eSz, rfl, hu, hv, zs, zt, by omega, fun h r H' s' hr => kq _ (if_neg h) r H' s' hr, fun h => (kn (if_pos h)).1⟩
abbrev s_made_by : Stmt := top 60
theorem sc_made_by : FnScope ["sketch", "there", "number", "numbers", "choose", "word", "name", "of", "meets", "makes"] ["sketch", "there", "number", "numbers", "choose"] (defScope s_made_by) := ⟨rfl, rfl, rfl, by decide +kernel, rfl, by decide +kernel, by decide +kernel⟩
def spMadeBy (CE CN : Addr) : Sp := fun vs H Q EX => ∃ (v u nv cv : V) (pl : Pl) (E : Ev) (i : Nat) (x : Str) (s : Stp) (ns : List Rat), vs = [v, u, .int i, nv, cv] ∧ PlA pl H v ∧ pl.length ≤ 100 ∧ pl.names.Nodup ∧ ThereA CE E H u ∧ EvOk pl E ∧
  pl[i]? = some (x, s) ∧ NsA CE ns H nv ∧ ns.length = s.takes ∧ (∀ q ∈ ns, Sm 64 q) ∧ Fit E s ∧ (∀ o, mkS E s ns = some o → ∀ r H', Same H H' → o.A CE H' r → Q r H') ∧ (mkS E s ns = none → (∀ H', Same H H' → Q .non H') ∧ ∀ H', Same H H' → EX (.ref CN) none H')
theorem ok_made_by (B : Bl mg) (D : WayDefs P w K mg base CE CN) (W : Ways K w mg) (c_place_on : Cal P w K mg base CX0 63 "place_on" ["sketch", "there", "name", "number"] (spPlaceOn CE lvD)) (c_place_round : Cal P w K mg base CX0 43 "place_round" ["sketch", "there", "name", "number"] (spPlaceRound CE))
    (c_turned : Cal P w K mg base CX0 43 "turned" ["p", "about", "many"] (spTurned CE)) (c_other_of : Cal P w K mg base CX0 44 "other_of" ["line", "circle", "point"] (spOther CE)) (F : FnAt K mg "made_by" s_made_by) :
    Cal P w K mg base (L2.CX P w) 64 "made_by" ["sketch", "there", "number", "numbers", "choose"] (spMadeBy CE CN) := by
  refine Cal.of F sc_made_by (fun _ _ _ _ _ _ us hl => match us, hl with | [_, _, _, _, _], _ => rfl) (fun vs H Q E h => ?_) (fun f cdv A outer s H vs Q EX hr h => ?_)
  · obtain ⟨v, u, nv, cv, pl, E, i, x, s, ns, rfl, _⟩ := h
    rfl
  · obtain ⟨v, u, nv, cv, pl, E, i, x, st, ns, rfl, hp, hl, hn, ht, ok, hi, hns, hnl, hnz, fit, kq, kn⟩ := h
    have hu : (A.deeper (envOfC "made_by" (defScope s_made_by) s.heap.objs.size f cdv)).units + 1 < cLine := by
      have := hr.un
      omega
    have eE : eSz = 20000 := rfl
    obtain ⟨pw, es, n, mw, kd, kf⟩ := W.ex
    refine ⟨_, (pss_cons (ps_asg (pe_ix ix_tup (pv 0) (pv 2) (fun _ _ => rfl)) (pg_star (i := 2) rfl (pgs_cons (pg_name (i := 5) sc_made_by.nd rfl (by first | exact Or.inl rfl | exact Or.inr rfl)) (pgs_cons (pg_name (i := 6) sc_made_by.nd rfl (by first | exact Or.inl rfl | exact Or.inr rfl)) (pgs_st (pgs_cons (pg_name (i := 7) sc_made_by.nd rfl (by first | exact Or.inl rfl | exact Or.inr rfl)) pgs_nil))))))
      (pss_cons (ps_if (pt_cmpR op_eq (pv 5) pe_str (by first | exact nomark _ | rfl)) (pss_one (ps_ret (pe_callTy call_tuple_of (by rfl) B.tuple (by decide +kernel) (pa_cons (pv 3) pa_nil)))) pss_nil)
      (pss_cons (ps_if (pt_cmpR op_eq (pv 5) pe_str (by first | exact nomark _ | rfl)) (pss_one (ps_ret (pe_c c_place_on (hr.mono (by omega)) (pa_cons (pv 0) (pa_cons (pv 1) (pa_cons (pe_ix ix_list (pv 7) pe_int (fun _ _ => rfl)) (pa_cons (pe_ix ix_list (pv 3) pe_int (fun _ _ => rfl)) pa_nil))))))) pss_nil)
      (pss_cons (ps_if (pt_cmpR op_eq (pv 5) pe_str (by first | exact nomark _ | rfl)) (pss_one (ps_ret (pe_c c_place_round (hr.mono (by omega)) (pa_cons (pv 0) (pa_cons (pv 1) (pa_cons (pe_ix ix_list (pv 7) pe_int (fun _ _ => rfl)) (pa_cons (pe_ix ix_list (pv 3) pe_int (fun _ _ => rfl)) pa_nil))))))) pss_nil)
      (pss_cons (ps_if (pt_cmpR op_eq (pv 5) pe_str (by first | exact nomark _ | rfl)) (pss_one (ps_ret (pe_c c_turned (hr.mono (by omega)) (pa_cons (pe_dget hu (pv 1) (pe_ix ix_list (pv 7) pe_int (fun _ _ => rfl)) (fun _ _ => rfl)) (pa_cons (pe_dget hu (pv 1) (pe_ix ix_list (pv 7) pe_int (fun _ _ => rfl)) (fun _ _ => rfl)) (pa_cons (pe_ix ix_list (pv 7) pe_int (fun _ _ => rfl)) pa_nil)))))) pss_nil)
      (pss_cons (ps_if (pt_cmpR op_eq (pv 5) pe_str (by first | exact nomark _ | rfl)) (pss_cons (ps_never)
      (pss_cons (ps_never)
      (pss_one (ps_never)))) pss_nil)
      (pss_cons (ps_if (pt_cmpR op_eq (pv 5) pe_str (by first | exact nomark _ | rfl)) (pss_one (ps_ret (pe_c c_other_of (hr.mono (by omega)) (pa_cons (pe_dget hu (pv 1) (pe_ix ix_list (pv 7) pe_int (fun _ _ => rfl)) (fun _ _ => rfl)) (pa_cons (pe_dget hu (pv 1) (pe_ix ix_list (pv 7) pe_int (fun _ _ => rfl)) (fun _ _ => rfl)) (pa_cons (pe_dget hu (pv 1) (pe_ix ix_list (pv 7) pe_int (fun _ _ => rfl)) (fun _ _ => rfl)) pa_nil)))))) pss_nil)
      (pss_cons (ps_set (i := 9) sc_made_by.nd rfl (by first | exact Or.inl rfl | exact Or.inr rfl) (pe_ix ix_kdict (pe_glob (v := .ref pw) (by rfl) mw rfl) (pv 5) (fun _ _ => rfl)))
      (pss_one (ps_ret (pe_callS (S := WaySp mg CE CN) (i := 9) (E := EX) (k := 43) (D.held (Nat.le_refl _)) (hr.mono (by omega)) (passes_call (takes_of rfl rfl rfl rfl) fun _ _ _ _ z => z) rfl (.inl rfl) (pa_cons (pe_dget hu (pv 1) (pe_ix ix_list (pv 7) pe_int (fun _ _ => rfl)) (fun _ _ => rfl)) (pa_cons (pe_dget hu (pv 1) (pe_ix ix_list (pv 7) pe_int (fun _ _ => rfl)) (fun _ _ => rfl)) pa_nil))))))))))))), ?_⟩
    obtain ⟨a, ts, rfl, ha, he⟩ := id hp
    obtain ⟨t, g1, b, rfl, g2⟩ := he.2 i _ hi
    have sz : (stV (x, st)).length ≤ 16384 := by
      show (st.of.map V.str ++ st.num.map V.int).length + 1 + 1 ≤ 16384
      cases st <;> simp [Stp.of, Stp.num]
    refine ⟨_, rfl, _, rfl, a, ts, i, _, rfl, rfl, SqT.of ha, atI_nat g1, b, _, rfl, .inl (SqT.of g2), by show 2 ≤ (stV (x, st)).length; unfold stV; simp, sz, fun L hL => ?_⟩
    refine ⟨_, _, rfl, _, _, rfl, _, _, rfl, rfl, ?_⟩
    dsimp only
    rw [show List.drop 2 (stV (x, st)) = st.rest from rfl]
    have s1 : Same H (upd H L (.lst st.rest)) := same_new hL
    have eL : upd H L (.lst st.rest) L = some (.lst st.rest) := upd_same
    generalize upd H L (.lst st.rest) = H1 at s1 eL ⊢
    have ht1 := mo_there _ _ _ s1 ht
    have hp1 := mo_pl _ _ _ s1 hp
    have ns1 := mo_ns _ _ _ s1 hns
    have lx : ∀ {k : Nat} {y : Str} {σ : L2.St}, σ[7]? = some (some (.ref L)) → st.rest[k]? = some (.str y) → EG (fun _ u => u = V.str y) (tOp (rIxL K) (tVar 7) (tC (.int (k : Int)))) σ H1 := fun h e => eg_lx h eL e mo_str rfl
    have kq1 : ∀ o, mkS E st ns = some o → ∀ r H', Same H1 H' → o.A CE H' r → Q r H' := fun o h r H' s h2 => kq o h r H' (s1.trans s) h2
    have kn1 : mkS E st ns = none → (∀ H', Same H1 H' → Q .non H') ∧ ∀ H', Same H1 H' → EX (.ref CN) none H' := fun h => ⟨fun H' s => (kn h).1 H' (s1.trans s), fun H' s => (kn h).2 H' (s1.trans s)⟩
    obtain ⟨w1, w2, w3, w4, w5, w6, w7, w8, w9, w10, w11⟩ := wd
    refine ⟨_, rfl, rfl, _, rfl, ?_⟩
    have n0 : ∀ {q : Rat}, ns = [q] → ∀ {σ : L2.St}, σ[3]? = some (some nv) → EG (Nm CE q) (tOp (rIxL K) (tVar 3) (tC (.int 0))) σ H1 := fun {q} e {σ} h => by
      obtain ⟨na, nvs, rfl, hna, hnv⟩ := ns1
      obtain ⟨y, e1, e2⟩ := hnv.2 0 q (by rw [e]; rfl)
      exact eg_lx (k := 0) h hna e1 mo_num e2
    cases st with
    | free =>
      refine yes (strYes rfl) ?_
      obtain ⟨na, nvs, rfl, hna, hnv⟩ := ns1
      match ns, hnl, hnv, kq1 with
      | [q1, q2], _, hnv, kq1 =>
        obtain ⟨y1, e1, h1⟩ := hnv.2 0 q1 rfl
        obtain ⟨y2, e2, h2⟩ := hnv.2 1 q2 rfl
        have e3 : nvs = [y1, y2] := by
          refine List.ext_getElem? fun j => ?_
          match j with
          | 0 => exact e1
          | 1 => exact e2
          | j + 2 =>
            have := hnv.1
            simp only [List.length_cons, List.length_nil] at this
            simp [this]
        subst e3
        refine ⟨_, rfl, na, _, rfl, .inl ⟨SqL.of hna, fun l hl => ?_⟩⟩
        have s2 := same_new (o := .tup [y1, y2]) hl
        exact kq1 _ rfl _ _ s2 ⟨l, y1, y2, rfl, upd_same, Num.ext h1 s2, Num.ext h2 s2⟩
    | on l =>
      refine no (strNo w1) ?_
      refine ⟨_, rfl, rfl, _, rfl, yes (strYes rfl) ?_⟩
      obtain ⟨n3, b, p, hf⟩ := fit
      obtain ⟨q, rfl⟩ : ∃ q, ns = [q] := match ns, hnl with
        | [q], _ => ⟨q, rfl⟩
      obtain ⟨_, _, j, k, n1, n2, hj, hb, hw⟩ := ok.ln _ _ _ _ hf
      refine ⟨_, rfl, _, rfl, (lx (k := 0) rfl rfl).run fun v1 H2 s2 e1 => ?_⟩
      subst e1
      refine ((n0 rfl rfl).ext s2).run fun v2 H3 s3 h3 => ?_
      have s23 := s2.trans s3
      refine ⟨_, _, _, pl, E, j, l, k, n1, n2, b, p, q, rfl, mo_pl _ _ _ s23 hp1, hl, hn, mo_there _ _ _ s23 ht1, ok.sm, hj, hb, hw, h3, hnz q (by simp), fun r H4 s4 h4 => kq1 (.pt (goneP b p q)) ?_ r H4 (s23.trans s4) h4⟩
      show (match thg E l with
        | some (.ln _ b w) => some (Thg.pt (goneP b w q))
        | _ => none) = _
      rw [hf]
    | round c =>
      refine no (strNo w2) ?_
      refine ⟨_, rfl, rfl, _, rfl, no (strNo w3) ?_⟩
      refine ⟨_, rfl, rfl, _, rfl, yes (strYes rfl) ?_⟩
      obtain ⟨m, p, hf⟩ := fit
      obtain ⟨q, rfl⟩ : ∃ q, ns = [q] := match ns, hnl with
        | [q], _ => ⟨q, rfl⟩
      obtain ⟨j, n1, n2, hj, hb, hq⟩ := ok.ci _ _ _ hf
      refine ⟨_, rfl, _, rfl, (lx (k := 0) rfl rfl).run fun v1 H2 s2 e1 => ?_⟩
      subst e1
      refine ((n0 rfl rfl).ext s2).run fun v2 H3 s3 h3 => ?_
      have s23 := s2.trans s3
      refine ⟨_, _, _, pl, E, j, c, n1, n2, m, p, q, rfl, mo_pl _ _ _ s23 hp1, hl, hn, mo_there _ _ _ s23 ht1, ok.sm, hj, hb, hq, h3, hnz q (by simp), fun r H4 s4 h4 => kq1 (.pt (onP m p q)) ?_ r H4 (s23.trans s4) h4⟩
      show (match thg E c with
        | some (.ci m p) => some (Thg.pt (onP m p q))
        | _ => none) = _
      rw [hf]
    | turn p q k =>
      refine no (strNo w4) ?_
      refine ⟨_, rfl, rfl, _, rfl, no (strNo w5) ?_⟩
      refine ⟨_, rfl, rfl, _, rfl, no (strNo w6) ?_⟩
      refine ⟨_, rfl, rfl, _, rfl, yes (strYes rfl) ?_⟩
      obtain ⟨k3, a1, a2, h1, h2⟩ := fit
      refine (eg_there rfl ht1 (thg_some h1) (lx (k := 0) rfl rfl)).run fun v1 H2 s2 hv1 => ?_
      refine ((eg_there rfl ht1 (thg_some h2) (lx (k := 1) rfl rfl)).ext s2).run fun v2 H3 s3 hv2 => ?_
      have s23 := s2.trans s3
      have z1 : SmP eSz a1 := ok.sm _ _ h1
      have z2 : SmP eSz a2 := ok.sm _ _ h2
      refine ⟨_, rfl, L, _, (2 : Nat), .int (k : Nat), rfl, rfl, SqL.of (s23 _ _ eL), atI_nat rfl, ⟨_, _, a1, a2, k, eSz, rfl, mo_pt _ _ _ s3 hv1, hv2, z1, z2, k3, by omega, fun r H4 s4 h4 => kq1 (.pt (turnP a1 a2 k)) ?_ r H4 (s23.trans s4) h4⟩⟩
      show (match thg E p, thg E q with
        | some (.pt a), some (.pt b) => some (Thg.pt (turnP a b k))
        | _, _ => none) = _
      rw [h1, h2]
    | other l c p =>
      refine no (strNo w7) ?_
      refine ⟨_, rfl, rfl, _, rfl, no (strNo w8) ?_⟩
      refine ⟨_, rfl, rfl, _, rfl, no (strNo w9) ?_⟩
      refine ⟨_, rfl, rfl, _, rfl, no (strNo w10) ?_⟩
      refine ⟨_, rfl, rfl, _, rfl, no (strNo w11) ?_⟩
      refine ⟨_, rfl, rfl, _, rfl, yes (strYes rfl) ?_⟩
      obtain ⟨n3, b3, w3', m, m2, a1, h1, h2, h3⟩ := fit
      refine (eg_there rfl ht1 (thg_some h1) (lx (k := 0) rfl rfl)).run fun v1 H2 s2 hv1 => ?_
      refine ((eg_there rfl ht1 (thg_some h2) (lx (k := 1) rfl rfl)).ext s2).run fun v2 H3 s3 hv2 => ?_
      refine ((eg_there rfl ht1 (thg_some h3) (lx (k := 2) rfl rfl)).ext (s2.trans s3)).run fun v3 H4 s4 hv3 => ?_
      have s34 := s3.trans s4
      have z1 : SmL eSz n3 := ok.sm _ _ h1
      have z2 : SmP eSz m ∧ SmP eSz m2 := ok.sm _ _ h2
      have z3 : SmP eSz a1 := ok.sm _ _ h3
      refine ⟨_, _, _, n3, circC m m2, a1, eSz, rfl, mo_ln _ _ _ s34 hv1, mo_ci _ _ _ s4 hv2, hv3, z1, z2.1, z3, by omega, (ok.ln _ _ _ _ h1).2.1, fun r H5 s5 h5 => kq1 (.pt (othP n3 m a1)) ?_ r H5 ((s2.trans s34).trans s5) h5⟩
      show (match thg E l, thg E c, thg E p with
        | some (.ln n _ _), some (.ci m _), some (.pt a) => some (Thg.pt (othP n m a))
        | _, _, _ => none) = _
      rw [h1, h2, h3]
    | two b x1 x2 =>
      obtain ⟨b1, b2, b3, b4, b5, b6⟩ := bw b
      refine no (strNo b1) ?_
      refine ⟨_, rfl, rfl, _, rfl, no (strNo b2) ?_⟩
      refine ⟨_, rfl, rfl, _, rfl, no (strNo b3) ?_⟩
      refine ⟨_, rfl, rfl, _, rfl, no (strNo b4) ?_⟩
      refine ⟨_, rfl, rfl, _, rfl, no (strNo b5) ?_⟩
      refine ⟨_, rfl, rfl, _, rfl, no (strNo b6) ?_⟩
      obtain ⟨fa, kf1, kf2⟩ := kf b
      refine ⟨_, rfl, pw, b.word, .ref fa, rfl, rfl, ⟨es, n, .ref fa, kd.at_, kd.lit, kf1, rfl⟩, ?_⟩
      obtain ⟨s', t', h1, h2, h3⟩ := fit
      refine ⟨fa, _, rfl, ⟨b, kf2, rfl⟩, ?_⟩
      refine (eg_there rfl ht1 (thg_some h1) (lx (k := 0) rfl rfl)).run fun v1 H2 s2 hv1 => ?_
      refine ((eg_there rfl ht1 (thg_some h2) (lx (k := 1) rfl rfl)).ext s2).run fun v2 H3 s3 hv2 => ?_
      have s23 := s2.trans s3
      have em : mkS E (.two b x1 x2) ns = mkB b s' t' := by
        show (match thg E x1, thg E x2 with
          | some s, some t => mkB b s t
          | _, _ => none) = _
        rw [h1, h2]
      exact waySp_run ok h1 h2 (mo_tho _ _ _ s3 hv1) hv2 h3 (fun o e r H4 s4 h4 => kq1 o (em.trans e) r H4 (s23.trans s4) h4) fun e => ⟨fun H4 s4 => (kn1 (em.trans e)).1 H4 (s23.trans s4), fun H4 s4 => (kn1 (em.trans e)).2 H4 (s23.trans s4)⟩
end
end Ph
set_option linter.all false
set_option maxRecDepth 100000
set_option maxHeartbeats 40000000
set_option exponentiation.threshold 500
namespace Ph
open PySem PySem.Spec PyProof.Rows L2 LamX
/-! ### the plan drawn, step by step -/
/-- what is drawn after i steps (the newest first), and the numbers that are left -/
def stAt (pl : Pl) (ns : List Rat) : Nat → Ev × List Rat
  | 0 => ([], ns)
  | i + 1 => match pl[i]? with
    | some (x, s) => ((x, mkS (stAt pl ns i).1 s ((stAt pl ns i).2.take s.takes)) :: (stAt pl ns i).1, (stAt pl ns i).2.drop s.takes)
    | none => stAt pl ns i
def draw (pl : Pl) (ns : List Rat) : List (Option Thg) := ((stAt pl ns pl.length).1.map (·.2)).reverse
/-- what the walk of a drawing asks of plan and numbers -/
structure PlOk (pl : Pl) (ns : List Rat) : Prop where
  len : pl.length ≤ 100
  nd : pl.names.Nodup
  sm : ∀ q ∈ ns, Sm 64 q
  nl : ns.length ≤ 100
  ref : ∀ (i : Nat) (x : Str) (s : Stp), pl[i]? = some (x, s) → ∀ y ∈ s.of, ∃ o, eL (stAt pl ns i).1 y = some o
  fit : ∀ (i : Nat) (x : Str) (s : Stp), pl[i]? = some (x, s) → (∀ y ∈ s.of, (thg (stAt pl ns i).1 y).isSome = true) → Fit (stAt pl ns i).1 s
  non : ∀ (i : Nat) (x : Str) (s : Stp), pl[i]? = some (x, s) → (∃ y ∈ s.of, thg (stAt pl ns i).1 y = none) → mkS (stAt pl ns i).1 s ((stAt pl ns i).2.take s.takes) = none
  tk : ∀ (i : Nat) (x : Str) (s : Stp), pl[i]? = some (x, s) → s.takes ≤ (stAt pl ns i).2.length
  ok : ∀ i, i < pl.length → EvOk pl (stAt pl ns i).1
theorem stAt_len {pl : Pl} {ns : List Rat} : ∀ i, (stAt pl ns i).1.length ≤ i
  | 0 => Nat.le_refl _
  | i + 1 => by
    have h := stAt_len (pl := pl) (ns := ns) i
    simp only [stAt]
    split
    · simp only [List.length_cons]
      omega
    · omega
theorem stAt_sub {pl : Pl} {ns : List Rat} : ∀ i, ∀ q ∈ (stAt pl ns i).2, q ∈ ns
  | 0, q, h => h
  | i + 1, q, h => by
    have ih := stAt_sub (pl := pl) (ns := ns) i q
    simp only [stAt] at h
    split at h
    · exact ih (List.mem_of_mem_drop h)
    · exact ih h
theorem thg_of {E : Ev} {x : Str} {o : Option Thg} (h : eL E x = some o) : thg E x = o := by
  unfold thg
  rw [h]
  rfl
section
variable {α : Type} {A : α → Ap} {xs : List α} {H : Hp} {vs : List V} {q : α}
theorem Each.snoc {v : V} (e : Each A xs H vs) (h : A q H v) : Each A (xs ++ [q]) H (vs ++ [v]) := by
  refine ⟨by simp [e.1], fun i x hx => ?_⟩
  by_cases lt : i < xs.length
  · rw [List.getElem?_append_left lt] at hx
    obtain ⟨u, a, b⟩ := e.2 i x hx
    exact ⟨u, by rw [List.getElem?_append_left (by rw [e.1]; exact lt)]; exact a, b⟩
  · rw [List.getElem?_append_right (by omega)] at hx
    have z : i - xs.length = 0 := by
      have := (List.getElem?_eq_some_iff.mp hx).1
      simpa using this
    rw [z] at hx
    cases hx
    exact ⟨v, by rw [List.getElem?_append_right (by rw [e.1]; omega), e.1, z]; rfl, h⟩
theorem Each.unsnoc (e : Each A (xs ++ [q]) H vs) : ∃ ws v, vs = ws ++ [v] ∧ Each A xs H ws ∧ A q H v := by
  have hl := e.1
  rw [List.length_append] at hl
  have ne : vs ≠ [] := fun z => by
    rw [z] at hl
    simp at hl
  refine ⟨vs.dropLast, vs.getLast ne, (List.dropLast_concat_getLast ne).symm, ⟨by simp [hl], fun i x hx => ?_⟩, ?_⟩
  · have lt := (List.getElem?_eq_some_iff.mp hx).1
    obtain ⟨u, a, b⟩ := e.2 i x (by rw [List.getElem?_append_left lt]; exact hx)
    refine ⟨u, ?_, b⟩
    rw [List.getElem?_dropLast, if_pos (by simp at hl; omega)]
    exact a
  · obtain ⟨u, a, b⟩ := e.2 xs.length q (by simp)
    have : vs.getLast ne = u := by
      rw [List.getLast_eq_getElem]
      have h2 := (List.getElem?_eq_some_iff.mp a).2
      simp only [List.length_cons, List.length_nil] at hl
      simp only [hl, Nat.add_sub_cancel]
      exact h2
    rw [this]
    exact b
end
/-- all but L is as it was -/
def SameX (L : Addr) (H H' : Hp) : Prop := ∀ b o, b ≠ L → H b = some o → H' b = some o
theorem SameX.of {L : Addr} {H H' : Hp} (s : Same H H') : SameX L H H' := fun b o _ => s b o
theorem SameX.trans {L : Addr} {H H1 H2 : Hp} (a : SameX L H H1) (b : SameX L H1 H2) : SameX L H H2 := fun c o n h => b c o n (a c o n h)
theorem SameX.put {L : Addr} {H : Hp} {o : HO} : SameX L H (upd H L o) := fun b u n e => by
  rw [upd_ne n]
  exact e
theorem SameX.new {L D : Addr} {H H' : Hp} {o : HO} (s : SameX L H H') (n : H D = none) : SameX L H (upd H' D o) := fun b u nb e => by
  rw [upd_ne (ne_of_none e n)]
  exact s b u nb e
theorem SameX.imm {L : Addr} {H H' : Hp} {xs : List V} (s : SameX L H H') (h : H L = some (.lst xs)) : SameI H H' := fun b o e i => by
  refine s b o (fun z => ?_) e
  subst z
  rw [h] at e
  cases e
  exact i
structure Ex2 (K : PySem.W.Frag) (mg : Str → Option Value) (CN CR : Addr) : Prop where
  mN : mg "NoLine" = some (.ref CN)
  mR : mg "TwoRoots" = some (.ref CR)
  any : PySem.W.exmAny K (.ref CN) [.ref CN, .ref CR] = some true
theorem gN {i : Nat} {v : V} {σ : L2.St} {H : Hp} {Q : L2.St → Hp → Prop} (h : Q (σ.set i (some v)) H) : gName i v σ H Q := h
theorem if_cb {r : List V → Hp → VK → Prop} {te : TE} {a b : TS} {D : Ends} {σ : L2.St} {H : Hp} (h : te σ H fun v H1 => r [v] H1 fun x H2 => ∃ c, x = .bl c ∧ if c = true then a D σ H2 else b D σ H2) : tIfS (tB (tCB r (tCons te tNil))) a b D σ H := h
theorem made_tail {K : PySem.W.Frag} {D F : Addr} {x : Str} {u : V} {D1 : Ends} {σ : L2.St} {H : Hp} {kvs : List (Key × V)} {fs : List V} (h3 : σ[3]? = some (some (.ref D))) (h9 : σ[9]? = some (some (.str x))) (h15 : σ[15]? = some (some u)) (h4 : σ[4]? = some (some (.ref F)))
    (hd : H D = some (.dK kvs)) (hf : H F = some (.lst fs)) (hk : kvs.length ≤ 1000) (hl : fs.length ≤ 1000) (q : D1.nx σ (upd (upd H D (.dK (putK kvs (.inr x) u))) F (.lst (fs ++ [u])))) :
    sDPut (tVar 3) (tVar 9) (tVar 15) { D1 with nx := tDrop (tBM K "list" rAppend (tVar 4) (tCons (tVar 15) tNil)) D1 } σ H := by
  have ne : F ≠ D := fun z => by
    rw [z, hd] at hf
    cases hf
  have hf2 : upd H D (.dK (putK kvs (.inr x) u)) F = some (.lst fs) := by
    rw [upd_ne ne]
    exact hf
  exact ⟨u, h15, .ref D, h3, .str x, h9, D, _, rfl, DPut.k (k := .inr x) hd (by rw [sizeLine_eq]; omega), .ref F, h4, .inl ⟨rfl, _, SqL.of hf2⟩, u, h15, F, fs, u, rfl, rfl, hf2, by rw [sizeLine_eq]; omega, q⟩
structure KitS (K : PySem.W.Frag) : Prop where
  ss : PySem.W.kitOne K (.type "str") (.type "str") = some true
  is_ : PySem.W.kitOne K (.type "int") (.type "str") = some false
structure Takes2 (K : PySem.W.Frag) (w : World) (mg : Str → Option Value) : Prop where
  ex : ∃ a es n, mg "TAKES" = some (.ref a) ∧ KDict K w a es n ∧ ∀ s : Stp, ∃ o, KGets K w a s.word o ∧ o.getD (.int 0) = .int (s.takes : Nat)
theorem pe_cxs {X : Cx} {k : Nat} {x : Str} {ps : List Str} {sp : Sp} {p pos : Pos} {e : Expr} {es : List Expr} {t : TA} {W : WX} (c : Cal X.prog X.w X.K X.mg X.base (L2.CX X.prog X.w) k x ps sp) (hr : Room k X.A) (tk : Takes X W) (ha : PA X (e :: es) t) (hg : Gl X x := by rfl) (hdb : (x == ("__debug__" : Str)) = false := by decide)
    (he : starEach (e :: es) X.env = (false, eval e X.env) :: starEach es X.env := by rfl) (hpl : (backTo pos (starEach es X.env)).any (·.1) = false := by rfl) : PE X (.Call (.Name x p) (e :: es) [] pos) (L2.tCallS sp (WE W) t) := by
  obtain ⟨f, fd, a, b, d, g⟩ := c.ex
  exact L2.pe_callS a hr hg b d g (fun σ => L2.passAt tk σ) ha hdb he hpl
section
variable {P : Program} {w : World} {K : PySem.W.Frag} {mg : Str → Option Value} {base : Heap} {CE CN CR : Addr}
abbrev s_made : Stmt := top 61
theorem sc_made : FnScope ["sketch", "hand", "choose", "there", "found", "left", "number", "step", "word", "name", "of", "numbers", "turn", "named", "one", "thing"] ["sketch", "hand", "choose"] (defScope s_made) := ⟨rfl, rfl, rfl, by decide +kernel, rfl, by decide +kernel, by decide +kernel⟩
abbrev tPopL (K : PySem.W.Frag) : TE := tBM0 K "list" rPop (tVar 5)
def spMade (CE : Addr) : Sp := fun vs H Q _ => ∃ (v u cv : V) (pl : Pl) (ns : List Rat), vs = [v, u, cv] ∧ PlA pl H v ∧ TupOf (Nm CE) ns H u ∧ PlOk pl ns ∧ ∀ r H', Same H H' → TupOf (ThO CE) (draw pl ns) H' r → Q r H'
/-- between two turns -/
structure MadeIn (CE : Addr) (pl : Pl) (ns : List Rat) (D F L : Addr) (i : Nat) (H : Hp) : Prop where
  d : ∃ kvs, H D = some (.dK kvs) ∧ ThK CE (stAt pl ns i).1 H kvs
  f : ∃ fs, H F = some (.lst fs) ∧ Each (ThO CE) ((stAt pl ns i).1.map (·.2)).reverse H fs
  l : ∃ ls, H L = some (.lst ls) ∧ Each (Nm CE) (stAt pl ns i).2.reverse H ls
theorem ok_made (B : Bl mg) (T2 : Takes2 K w mg) (Y : Ex2 K mg CN CR) (Z : KitS K) (c_must_agree : Cal P w K mg base CX0 40 "must_agree" ["things"] (spAgree CE)) (c_made_by : Cal P w K mg base (L2.CX P w) 64 "made_by" ["sketch", "there", "number", "numbers", "choose"] (spMadeBy CE CN)) (F : FnAt K mg "made" s_made) :
    Cal P w K mg base CX0 65 "made" ["sketch", "hand", "choose"] (spMade CE) := by
  refine Cal.of0 F sc_made (fun _ _ _ _ _ _ us hl => match us, hl with | [_, _, _], _ => rfl) (fun vs H Q E h => ?_) (fun f cdv A outer s H vs Q E hr h => ?_)
  · obtain ⟨v, u, cv, pl, ns, rfl, _⟩ := h
    rfl
  · obtain ⟨v, u, cv, pl, ns, rfl, hp, hh, ok, k⟩ := h
    have hu : (A.deeper (envOfC "made" (defScope s_made) s.heap.objs.size f cdv)).units + 1 < cLine := by
      have := hr.un
      omega
    obtain ⟨pt, es, n, mt, kd, kt⟩ := T2.ex
    refine ⟨_, (pss_cons (ps_asg (pe_tup (pa_cons pe_dnewK (pa_cons (pe_lst pa_nil) pa_nil))) (pg_tup rfl (pgs_cons (pg_name (i := 3) sc_made.nd rfl (by first | exact Or.inl rfl | exact Or.inr rfl)) (pgs_cons (pg_name (i := 4) sc_made.nd rfl (by first | exact Or.inl rfl | exact Or.inr rfl)) pgs_nil))))
      (pss_cons (ps_set (i := 5) sc_made.nd rfl (by first | exact Or.inl rfl | exact Or.inr rfl) (pe_revL (pe_callTy call_list_of (by rfl) B.list (by decide +kernel) (pa_cons (pv 1) pa_nil))))
      (pss_cons (ps_for PassesOwn.never rfl (pi_enumT (by rfl) B.enumerate (pa_cons (pv 0) pa_nil)) (pg_tup rfl (pgs_cons (pg_name (i := 6) sc_made.nd rfl (by first | exact Or.inl rfl | exact Or.inr rfl)) (pgs_cons (pg_name (i := 7) sc_made.nd rfl (by first | exact Or.inl rfl | exact Or.inr rfl)) pgs_nil))) (pss_cons (ps_asg (pv 7) (pg_star (i := 2) rfl (pgs_cons (pg_name (i := 8) sc_made.nd rfl (by first | exact Or.inl rfl | exact Or.inr rfl)) (pgs_cons (pg_name (i := 9) sc_made.nd rfl (by first | exact Or.inl rfl | exact Or.inr rfl)) (pgs_st (pgs_cons (pg_name (i := 10) sc_made.nd rfl (by first | exact Or.inl rfl | exact Or.inr rfl)) pgs_nil))))))
      (pss_cons (ps_setLc (i := 11) (own := [("turn", 12)]) (g := gName 12) (te := tPopL K) (by rfl) sc_made.nd rfl rfl (sw_true rfl rfl rfl (by decide +kernel)) (pi_range1 rfl B.range (pa_cons (pe_kget2 (pe_glob (v := .ref pt) (by rfl) mt rfl) (pv 8) pe_int ⟨by rfl, by rfl, by rfl, by rfl⟩) pa_nil)) (blkOk_by (own := [("turn", 12)]) (N := ["sketch", "hand", "choose", "there", "found", "left", "number", "step", "word", "name", "of", "numbers", "turn", "named", "one", "thing"]) (sc := defScope s_made) (by decide +kernel)) (fun _ _ _ _ _ => (pg_name (i := 12) sc_made.nd rfl (by first | exact Or.inl rfl | exact Or.inr rfl))) (fun _ _ _ _ _ => pts_nil) (fun _ _ _ _ _ => pe_bm0 PySem.F.plainAttrs_list PySem.F.slot_list_pop PySem.F.type_list_pop mt_pop (pv 5)))
      (pss_cons (ps_setLc (i := 13) (own := [("one", 14)]) (g := gName 14) (tt := tB (tCB (rIsi K) (tCons (tVar 14) (tCons (tC (.ty "str")) tNil)))) (te := tDGet (tVar 3) (tVar 14)) (by rfl) sc_made.nd rfl rfl (sw_true rfl rfl rfl (by decide +kernel)) (pi_list (pv 10)) (blkOk_by (own := [("one", 14)]) (N := ["sketch", "hand", "choose", "there", "found", "left", "number", "step", "word", "name", "of", "numbers", "turn", "named", "one", "thing"]) (sc := defScope s_made) (by decide +kernel)) (fun _ _ _ _ _ => (pg_name (i := 14) sc_made.nd rfl (by first | exact Or.inl rfl | exact Or.inr rfl))) (fun _ _ _ _ _ => (pts_one (pt_val (pe_callB call_isi (by rfl) B.isinstance (by decide +kernel) (pa_cons (pv 14) (pa_cons (pe_bltn (v := .ty "str") (by rfl) B.str (by decide +kernel) rfl) pa_nil)))))) (fun _ _ _ _ _ => pe_dget hu (pv 3) (pv 14) (fun _ _ => rfl)))
      (pss_cons (ps_set (i := 15) sc_made.nd rfl (by first | exact Or.inl rfl | exact Or.inr rfl) pe_non)
      (pss_cons (ps_if (pt_val (pe_callB (cr_all rfl) (by rfl) B.all (by decide +kernel) (pa_cons (pe_lc (own := [("one", 14)]) (g := gName 14)  (by rfl) sc_made.nd (pi_list (pv 13)) (blkOk_by (own := [("one", 14)]) (N := ["sketch", "hand", "choose", "there", "found", "left", "number", "step", "word", "name", "of", "numbers", "turn", "named", "one", "thing"]) (sc := defScope s_made) (by decide +kernel)) (fun _ _ _ _ _ => (pg_name (i := 14) sc_made.nd rfl (by first | exact Or.inl rfl | exact Or.inr rfl))) (fun _ _ _ _ _ => pts_nil) (fun _ _ _ _ _ => (pe_cmp (pc_notN (pv 14)) rfl))) pa_nil))) (pss_one (ps_try_two (c1 := .ref CN) (c2 := .ref CR) rfl rfl ⟨rfl, by decide, .inl Y.mN⟩ ⟨rfl, by decide, .inl Y.mR⟩ (fun W pn xe tk _ => pss_cons (ps_expr (pe_c c_must_agree (hr.mono (by omega)) (pa_cons (pv 13) pa_nil))) (pss_one (ps_set (i := 15) sc_made.nd rfl (.inl rfl) (pe_cxs c_made_by hr tk (pa_cons (pv 0) (pa_cons (pv 3) (pa_cons (pv 6) (pa_cons (pv 11) (pa_cons (pv 2) pa_nil)))))))) ) (fun a oe cls d pn _ _ => pss_one (ps_set (i := 15) sc_made.nd rfl (.inl rfl) pe_non)))) pss_nil)
      (pss_cons (ps_dput hu (pv 3) (pv 9) (pv 15) rfl)
      (pss_one (ps_expr (pe_bm PySem.F.plainAttrs_list PySem.F.slot_list_append PySem.F.type_list_append mt_append (pv 4) (pa_cons (pv 15) pa_nil)))))))))))
      (pss_one (ps_ret (pe_callTy call_tuple_of (by rfl) B.tuple (by decide +kernel) (pa_cons (pv 4) pa_nil))))))), ?_⟩
    obtain ⟨a, ts, rfl, ha, he⟩ := id hp
    obtain ⟨b, hs, rfl, hb, hq⟩ := id hh
    refine fun D hD => ⟨by show 0 ≤ sizeLine; decide, fun F hF => ⟨by show 2 ≤ sizeLine; decide, fun T hT => ⟨T, _, rfl, SqT.of upd_same, rfl, _, _, rfl, _, _, rfl, rfl, ?_⟩⟩⟩
    have s1 : Same H (upd H D (.dK [])) := same_new hD
    have s2 := s1.trans (same_new (o := .lst []) hF)
    have s3 := s2.trans (same_new (o := .tup [.ref D, .ref F]) hT)
    refine ⟨_, rfl, b, hs, rfl, .inr (SqT.of (s3 _ _ hb)), fun l1 h1 => ⟨l1, _, rfl, SqL.of upd_same, fun L hL => ?_⟩⟩
    have s4 := s3.trans (same_new (o := .lst hs) h1)
    have s5 := s4.trans (same_new (o := .lst hs.reverse) hL)
    have nF : H F = none := s1.free hF
    have nL : H L = none := s4.free hL
    have f1 : Same (upd H D (.dK [])) (upd (upd (upd (upd (upd H D (.dK [])) F (.lst [])) T (.tup [.ref D, .ref F])) l1 (.lst hs)) L (.lst hs.reverse)) := (((same_new hF).trans (same_new hT)).trans (same_new h1)).trans (same_new hL)
    have f2 : Same (upd (upd H D (.dK [])) F (.lst [])) (upd (upd (upd (upd (upd H D (.dK [])) F (.lst [])) T (.tup [.ref D, .ref F])) l1 (.lst hs)) L (.lst hs.reverse)) := ((same_new hT).trans (same_new h1)).trans (same_new hL)
    have f3 : Same (upd (upd H D (.dK [])) F (.lst [])) (upd (upd (upd (upd H D (.dK [])) F (.lst [])) T (.tup [.ref D, .ref F])) l1 (.lst hs)) := (same_new hT).trans (same_new h1)
    have nFL : F ≠ L := fun z => by
      subst z
      exact absurd ((f3 _ _ (upd_same (H := upd H D (.dK [])) (a := F) (o := .lst []))).symm.trans hL) (by simp)
    have cD := f1 _ _ (upd_same (H := H) (a := D) (o := .dK []))
    have cF := f2 _ _ (upd_same (H := upd H D (.dK [])) (a := F) (o := .lst []))
    have cL := upd_same (H := upd (upd (upd (upd H D (.dK [])) F (.lst [])) T (.tup [.ref D, .ref F])) l1 (.lst hs)) (a := L) (o := .lst hs.reverse)
    dsimp only
    generalize upd (upd (upd (upd (upd H D (.dK [])) F (.lst [])) T (.tup [.ref D, .ref F])) l1 (.lst hs)) L (.lst hs.reverse) = H0 at s5 cD cF cL ⊢
    clear f1 f2 f3
    have hrev : Each (Nm CE) ns.reverse H0 hs.reverse := by
      refine ⟨by simp [hq.1], fun j q hj => ?_⟩
      have lj : j < ns.length := by simpa using (List.getElem?_eq_some_iff.mp hj).1
      rw [List.getElem?_reverse lj] at hj
      obtain ⟨y, e1, e2⟩ := hq.2 _ q hj
      exact ⟨y, by rw [List.getElem?_reverse (by rw [hq.1]; exact lj), hq.1]; exact e1, e2.ext s5⟩
    refine ⟨_, rfl, a, ts, rfl, SqT.of (s5 _ _ ha), ?_⟩
    refine for_it walk_enumT (fun i σ' H' => i ≤ pl.length ∧ Same H H' ∧ MadeIn CE pl ns D F L i H' ∧ ∃ x6 x7 x8 x9 x10 x11 x12 x13 x14 x15, σ' = [some (.ref a), some (.ref b), some cv, some (.ref D), some (.ref F), some (.ref L), x6, x7, x8, x9, x10, x11, x12, x13, x14, x15]) ⟨Nat.zero_le _, s5, ⟨⟨[], cD, ThK.nil⟩, ⟨[], cF, rfl, fun j x hx => by cases hx⟩, ⟨_, cL, hrev⟩⟩, none, none, none, none, none, none, none, none, none, none, rfl⟩ (fun i σ' H' _ h => SqT.of (h.2.1 _ _ ha)) (fun i z σ' H' H2 lt h y => ?_) fun σ' H' h => ?_
    · obtain ⟨hi, s6, ⟨⟨kvs, hkd, hK⟩, ⟨fs, hf, hfs⟩, ⟨ls, hl, hls⟩⟩, x6, x7, x8, x9, x10, x11, x12, x13, x14, x15, rfl⟩ := h
      obtain ⟨T, z1, z2, rfl, hT, rfl, e1, e2⟩ := y
      cases e1
      rw [he.1] at lt
      obtain ⟨x, st, hpi⟩ : ∃ x st, pl[i]? = some (x, st) := ⟨_, _, List.getElem?_eq_getElem lt⟩
      obtain ⟨t, g1, c2, rfl, g2⟩ := he.2 i _ hpi
      obtain rfl : V.ref c2 = z2 := Option.some.inj (g1.symm.trans e2)
      refine ⟨T, _, rfl, SqT.of upd_same, rfl, _, _, rfl, _, _, rfl, rfl, ?_⟩
      have s7 : Same H' (upd H' T (.tup [.int (i : Nat), .ref c2])) := same_new hT
      have sz : (stV (x, st)).length ≤ 16384 := by
        show (st.of.map V.str ++ st.num.map V.int).length + 1 + 1 ≤ 16384
        cases st <;> simp [Stp.of, Stp.num]
      refine ⟨_, rfl, c2, _, rfl, .inl (SqT.of ((s6.trans s7) _ _ g2)), by show 2 ≤ (stV (x, st)).length; unfold stV; simp, sz, fun O hO => ?_⟩
      refine ⟨_, _, rfl, _, _, rfl, _, _, rfl, rfl, ?_⟩
      dsimp only
      rw [show List.drop 2 (stV (x, st)) = st.rest from rfl]
      have s8 : Same H' (upd (upd H' T (.tup [.int (i : Nat), .ref c2])) O (.lst st.rest)) := s7.trans (same_new hO)
      have cO := upd_same (H := upd H' T (.tup [.int (i : Nat), .ref c2])) (a := O) (o := .lst st.rest)
      generalize upd (upd H' T (.tup [.int (i : Nat), .ref c2])) O (.lst st.rest) = H3 at s8 cO ⊢
      unfold tSeq
      dsimp only
      unfold tAsg
      dsimp only [List.map]
      obtain ⟨o, ho, eo⟩ := kt st
      have tk2 : st.takes ≤ 2 := by cases st <;> simp [Stp.takes]
      have tkr := ok.tk i x st hpi
      refine ⟨pt, rfl, ⟨es, n, kd⟩, _, rfl, st.word, o, rfl, ho, (st.takes : Nat), by rw [eo], by omega, by omega, fun D2 hD2 => ?_⟩
      have lL : H3 L = some (.lst ls) := s8 _ _ hl
      have nL2 : L ≠ D2 := ne_of_none lL hD2
      refine lc_it (walk_range (lo := 0) (n := st.takes)) (fun j Hx => j ≤ st.takes ∧ SameX L H3 Hx ∧ (∃ l2, Hx L = some (.lst l2) ∧ Each (Nm CE) ((stAt pl ns i).2.drop j).reverse Hx l2) ∧ ∃ acc, Hx D2 = some (.lst acc) ∧ Each (Nm CE) ((stAt pl ns i).2.take j) Hx acc)
        ⟨Nat.zero_le _, SameX.of (same_new hD2), ⟨ls, same_new hD2 _ _ lL, hls.sameI (fun _ => mi_num) ((SameI.of s8).trans (SameI.of (same_new hD2)))⟩, [], upd_same, rfl, fun j x hx => by cases hx⟩ (fun _ _ _ _ => True.intro) (fun j z Hx Hy lj h y => ?_) fun Hx h => ?_
      · obtain ⟨rfl, rfl⟩ := y
        obtain ⟨hj, q1, ⟨l2, c2, e2⟩, acc, c3, e3⟩ := h
        have lr : j < (stAt pl ns i).2.length := by omega
        rw [List.drop_eq_getElem_cons lr, List.reverse_cons] at e2
        obtain ⟨ws, v, rfl, e4, e5⟩ := e2.unsnoc
        refine ⟨rfl, ?_⟩
        refine ⟨_, rfl, .inl ⟨rfl, _, SqL.of c2⟩, L, _, v, rfl, rfl, c2, by simp, ?_⟩
        rw [List.dropLast_concat]
        have i1 : SameI Hy (upd Hy L (.lst ws)) := SameX.put.imm c2
        have c4 : upd Hy L (.lst ws) D2 = some (.lst acc) := by
          rw [upd_ne (Ne.symm nL2)]
          exact c3
        have i2 : SameI (upd Hy L (.lst ws)) (upd (upd Hy L (.lst ws)) D2 (.lst (acc ++ [v]))) := SameI.put c4 (fun z => z)
        have la : acc.length = j := by rw [e3.1, List.length_take]; omega
        refine ⟨acc, c4, by rw [la, sizeLine_eq]; omega, by omega, (q1.trans SameX.put).new hD2, ⟨ws, by rw [upd_ne nL2, upd_same], e4.sameI (fun _ => mi_num) (i1.trans i2)⟩, _, upd_same, ?_⟩
        rw [List.take_succ_eq_append_getElem lr]
        exact (e3.sameI (fun _ => mi_num) (i1.trans i2)).snoc (mi_num _ _ _ (i1.trans i2) e5)
      · obtain ⟨_, q1, ⟨l2, cL4, eL4⟩, acc, cN4, eN4⟩ := h
        have nLO : L ≠ O := ne_of_none (s7 _ _ hl) hO
        have nDL : D ≠ L := fun z => by
          rw [z, hl] at hkd
          cases hkd
        have hS : Same H Hx := fun b o e => q1 b o (ne_of_none e nL) ((s6.trans s8) _ _ e)
        have cO4 : Hx O = some (.lst st.rest) := q1 _ _ (Ne.symm nLO) cO
        have cD4 : Hx D = some (.dK kvs) := q1 _ _ nDL (s8 _ _ hkd)
        have cF4 : Hx F = some (.lst fs) := q1 _ _ nFL (s8 _ _ hf)
        have sI4 : SameI H' Hx := (SameI.of s8).trans (q1.imm lL)
        have hK4 : ThK CE (stAt pl ns i).1 Hx kvs := hK.sameI sI4
        have hfs4 := hfs.sameI (fun _ => mi_tho) sI4
        have eN5 : Each (Nm CE) ((stAt pl ns i).2.take st.takes) Hx acc := eN4
        refine gN ?_
        refine ⟨_, rfl, O, rfl, ⟨_, SqL.of cO4⟩, fun D3 hD3 => ?_⟩
        have lo3 : st.of.length ≤ 3 := by cases st <;> simp [Stp.of]
        have rl : st.rest.length = st.of.length + st.num.length := by simp [Stp.rest]
        refine lc_it (walk_list (K := K)) (fun j Hy => Same Hx Hy ∧ ∃ ac, Hy D3 = some (.lst ac) ∧ Each (fun y => ThO CE (thg (stAt pl ns i).1 y)) (st.of.take j) Hy ac) ⟨same_new hD3, [], upd_same, rfl, fun j x hx => by cases hx⟩ (fun _ _ _ h => SqL.of (h.1 _ _ cO4)) (fun j z Hy Hz lj h y => ?_) fun Hy h => ?_
        · obtain ⟨rfl, hz⟩ := y
          obtain ⟨r1, ac, ca, ea⟩ := h
          by_cases lo : j < st.of.length
          · have ez : z = .str st.of[j] := by
              unfold Stp.rest at hz
              rw [List.getElem?_append_left (by simpa using lo)] at hz
              simpa [lo] using hz.symm
            subst ez
            refine ⟨rfl, ?_⟩
            refine ⟨_, rfl, _, _, _, _, _, rfl, .ty "str", .base (.str _), Z.ss, true, rfl, ?_⟩
            refine yes rfl ?_
            obtain ⟨oo, ho2⟩ := ok.ref i x st hpi st.of[j] (List.getElem_mem lo)
            obtain ⟨uu, hu1, hu2⟩ := hK4.2 _ _ ho2
            refine ⟨_, rfl, _, rfl, D, uu, rfl, hu1 ▸ DGet.k (k := .inr st.of[j]) (r1 _ _ cD4), ?_⟩
            have si : SameI Hz (upd Hz D3 (.lst (ac ++ [uu]))) := SameI.put ca (fun z => z)
            refine ⟨ac, ca, by rw [ea.1, List.length_take, sizeLine_eq]; omega, same_put r1 hD3, _, upd_same, ?_⟩
            rw [List.take_succ_eq_append_getElem lo]
            exact (ea.sameI (fun _ => mi_tho) si).snoc (by rw [thg_of ho2]; exact mi_tho _ _ _ ((SameI.of r1).trans si) hu2)
          · obtain ⟨nn, rfl⟩ : ∃ nn, z = .int nn := by
              unfold Stp.rest at hz
              rw [List.getElem?_append_right (by simpa using lo)] at hz
              simp only [List.getElem?_map, Option.map_eq_some_iff] at hz
              obtain ⟨nn, _, e⟩ := hz
              exact ⟨nn, e.symm⟩
            refine ⟨rfl, ?_⟩
            refine ⟨_, rfl, _, _, _, _, _, rfl, .ty "str", .base (.int _), Z.is_, false, rfl, ?_⟩
            refine no rfl ?_
            refine ⟨r1, ac, ca, ?_⟩
            rw [List.take_of_length_le (by omega)] at ea ⊢
            exact ea
        · obtain ⟨r1, ac, ca, ea⟩ := h
          rw [List.take_of_length_le (by omega)] at ea
          refine gN ?_
          refine gN ?_
          have hS5 : Same H Hy := hS.trans r1
          have nmd : LsA st.of.length (fun j => ThO CE (thg (stAt pl ns i).1 (st.of.getD j ""))) Hy (.ref D3) := by
            refine ⟨D3, ac, rfl, ca, ea.1, fun j lj => ?_⟩
            obtain ⟨y, e1, e2⟩ := ea.2 j st.of[j] (by simp [lj])
            exact ⟨y, e1, by show ThO CE (thg (stAt pl ns i).1 (st.of.getD j "")) Hy y; rw [List.getD_eq_getElem?_getD, List.getElem?_eq_getElem lj]; exact e2⟩
          refine if_cb ?_
          refine EG.run (te := tLc (iList K (tVar 13)) (gName 14) tYes (tNotN (tVar 14)) [14]) (σ := [some (.ref a), some (.ref b), some cv, some (.ref D), some (.ref F), some (.ref L), some (.int (i : Nat)), some (.ref c2), some (.str st.word), some (.str x), some (.ref O), some (.ref D2), x12, some (.ref D3), x14, some .non]) (eg_comp (n := st.of.length) (A := fun j => fun _ v => v = .bl (thg (stAt pl ns i).1 (st.of.getD j "")).isSome) (B := fun j => ThO CE (thg (stAt pl ns i).1 (st.of.getD j "")))
            (ig_list (fun j => mo_tho) (eg_var rfl (mo_lsA fun j => mo_tho) nmd)) (by omega) (fun j => fun _ _ _ _ h => h) fun j v H' s' lj hv => ⟨_, fun Q q => q, rfl, fun H1 s1 Q q => ⟨v, rfl, q _ _ (Same.refl _) (by
              cases ho : thg (stAt pl ns i).1 (st.of.getD j "") with
              | none =>
                have hv : ThO CE (thg (stAt pl ns i).1 (st.of.getD j "")) H' v := hv
                rw [ho] at hv
                obtain rfl : v = .non := hv
                rfl
              | some tt =>
                have hv : ThO CE (thg (stAt pl ns i).1 (st.of.getD j "")) H' v := hv
                rw [ho] at hv
                obtain ⟨q, rfl⟩ := hv.ne
                rfl)⟩⟩) fun v2 Hz s2 h2 => ?_
          obtain ⟨bl, bs, rfl, hbl, hbn, hbs⟩ := h2
          have ebs : bs = (st.of.map fun y => (thg (stAt pl ns i).1 y).isSome).map V.bl := by
            refine List.ext_getElem? fun j => ?_
            by_cases lj : j < st.of.length
            · obtain ⟨y, e1, e2⟩ := hbs j lj
              have e2 : y = .bl (thg (stAt pl ns i).1 (st.of.getD j "")).isSome := e2
              rw [e1, e2, List.getD_eq_getElem?_getD, List.getElem?_eq_getElem lj]
              simp [lj]
            · simp [hbn, lj]
          subst ebs
          have hS6 := hS5.trans s2
          refine ⟨bl, _, rfl, SqL.of hbl, _, rfl, ?_⟩
          have r2 : Same Hx Hz := r1.trans s2
          have es1 : stAt pl ns (i + 1) = ((x, mkS (stAt pl ns i).1 st ((stAt pl ns i).2.take st.takes)) :: (stAt pl ns i).1, (stAt pl ns i).2.drop st.takes) := by simp only [stAt, hpi]
          have lE : (stAt pl ns i).1.length ≤ 100 ∧ fs.length ≤ 100 := by
            have h1 := stAt_len (pl := pl) (ns := ns) i
            have h2 := hfs.1
            have h3 := ok.len
            simp only [List.length_reverse, List.length_map] at h2
            omega
          have fin : ∀ (Hw : Hp) (u : V), Same Hx Hw → ThO CE (mkS (stAt pl ns i).1 st ((stAt pl ns i).2.take st.takes)) Hw u → Same H (upd (upd Hw D (.dK (putK kvs (.inr x) u))) F (.lst (fs ++ [u]))) ∧ MadeIn CE pl ns D F L (i + 1) (upd (upd Hw D (.dK (putK kvs (.inr x) u))) F (.lst (fs ++ [u]))) := fun Hw u r3 hu3 => by
            have nFD : F ≠ D := fun z => by
              rw [z, cD4] at cF4
              cases cF4
            have i1 : SameI Hw (upd Hw D (.dK (putK kvs (.inr x) u))) := SameI.put (r3 _ _ cD4) (fun z => z)
            have cF5 : upd Hw D (.dK (putK kvs (.inr x) u)) F = some (.lst fs) := by
              rw [upd_ne nFD]
              exact r3 _ _ cF4
            have i2 : SameI (upd Hw D (.dK (putK kvs (.inr x) u))) (upd (upd Hw D (.dK (putK kvs (.inr x) u))) F (.lst (fs ++ [u]))) := SameI.put cF5 (fun z => z)
            have i3 : SameI Hx (upd (upd Hw D (.dK (putK kvs (.inr x) u))) F (.lst (fs ++ [u]))) := ((SameI.of r3).trans i1).trans i2
            refine ⟨same_put (same_put (hS.trans r3) hD) nF, ⟨_, by rw [upd_ne (Ne.symm nFD), upd_same], ?_⟩, ⟨_, upd_same, ?_⟩, ⟨l2, by rw [upd_ne (Ne.symm nFL), upd_ne (Ne.symm nDL)]; exact r3 _ _ cL4, ?_⟩⟩
            · rw [es1]
              exact (hK4.sameI i3).put (mi_tho _ _ _ (i1.trans i2) hu3)
            · rw [es1]
              show Each (ThO CE) (_ :: (stAt pl ns i).1.map (·.2)).reverse _ _
              rw [List.reverse_cons]
              exact (hfs4.sameI (fun _ => mi_tho) i3).snoc (mi_tho _ _ _ (i1.trans i2) hu3)
            · rw [es1]
              exact eL4.sameI (fun _ => mi_num) i3
          by_cases all : ∀ y ∈ st.of, (thg (stAt pl ns i).1 y).isSome = true
          · refine yes (by simpa using all) ?_
            have hrl : RL CE 4 Hz (.ref D3) := by
              refine .inr ⟨D3, ac, rfl, .inr (s2 _ _ ca), by rw [ea.1]; omega, fun z hz => ?_⟩
              obtain ⟨j, hj⟩ := List.getElem?_of_mem hz
              have lj : j < st.of.length := by
                rw [← ea.1]
                exact (List.getElem?_eq_some_iff.mp hj).1
              obtain ⟨y, e1, e2⟩ := ea.2 j st.of[j] (by simp [lj])
              obtain rfl : y = z := Option.some.inj (e1.symm.trans hj)
              have h3 := all st.of[j] (List.getElem_mem lj)
              cases e3 : thg (stAt pl ns i).1 st.of[j] with
              | none =>
                rw [e3] at h3
                cases h3
              | some tt =>
                have e2 : ThO CE (thg (stAt pl ns i).1 st.of[j]) Hy y := e2
                rw [e3] at e2
                exact rl_th (mo_tho _ _ _ s2 e2)
            refine ⟨_, rfl, .ref D3, rfl, hrl, fun H5 s5 => ?_⟩
            have r3 := r2.trans s5
            have htail : ∀ (Hw : Hp) (u : V), Same H5 Hw → ThO CE (mkS (stAt pl ns i).1 st ((stAt pl ns i).2.take st.takes)) Hw u → Same H (upd (upd Hw D (.dK (putK kvs (.inr x) u))) F (.lst (fs ++ [u]))) ∧ MadeIn CE pl ns D F L (i + 1) (upd (upd Hw D (.dK (putK kvs (.inr x) u))) F (.lst (fs ++ [u]))) := fun Hw u s6 h6 => fin Hw u (r3.trans s6) h6
            have lNs : ((stAt pl ns i).2.take st.takes).length = st.takes := by rw [List.length_take]; omega
            refine ⟨_, rfl, _, rfl, _, rfl, _, rfl, _, rfl, .ref a, .ref D, .ref D2, cv, pl, (stAt pl ns i).1, i, x, st, (stAt pl ns i).2.take st.takes, rfl, mo_pl _ _ _ (hS.trans r3) hp, ok.len, ok.nd, ⟨D, kvs, rfl, r3 _ _ cD4, hK4.sameI (SameI.of r3)⟩, ok.ok i lt, hpi, ⟨D2, acc, rfl, r3 _ _ cN4, eN5.same (fun _ => mo_num) r3⟩, lNs, ?_, ok.fit i x st hpi all, fun o ho r H6 s6 h6 => ?_, fun hn => ⟨fun H6 s6 => ?_, fun H6 s6 => ⟨Y.any, fun aa haa => ?_⟩⟩⟩
            · exact fun q hq2 => ok.sm q (stAt_sub i q (List.mem_of_mem_take hq2))
            · have hfin := htail H6 r s6 (by rw [ho]; exact h6)
              exact made_tail (D := D) (F := F) (x := x) (u := r) rfl rfl rfl rfl ((r3.trans s6) _ _ cD4) ((r3.trans s6) _ _ cF4) (Nat.le_trans hK4.1 (by omega)) (by omega) ⟨by omega, hfin.1, hfin.2, _, _, _, _, _, _, _, _, _, _, rfl⟩
            · have hfin := htail H6 .non s6 (by rw [hn]; rfl)
              exact made_tail (D := D) (F := F) (x := x) (u := .non) rfl rfl rfl rfl ((r3.trans s6) _ _ cD4) ((r3.trans s6) _ _ cF4) (Nat.le_trans hK4.1 (by omega)) (by omega) ⟨by omega, hfin.1, hfin.2, _, _, _, _, _, _, _, _, _, _, rfl⟩
            · have hfin := htail H6 .non s6 (by rw [hn]; rfl)
              exact made_tail (D := D) (F := F) (x := x) (u := .non) rfl rfl rfl rfl ((r3.trans s6) _ _ cD4) ((r3.trans s6) _ _ cF4) (Nat.le_trans hK4.1 (by omega)) (by omega) ⟨by omega, hfin.1, hfin.2, _, _, _, _, _, _, _, _, _, _, rfl⟩
          · refine no (by rw [Bool.eq_false_iff]; simpa using all) ?_
            have hnone : mkS (stAt pl ns i).1 st ((stAt pl ns i).2.take st.takes) = none := by
              refine ok.non i x st hpi (Classical.byContradiction fun hc => all fun y hy => ?_)
              cases e : thg (stAt pl ns i).1 y with
              | none => exact (hc ⟨y, hy, e⟩).elim
              | some t => rfl
            have hfin := fin Hz .non r2 (by rw [hnone]; rfl)
            exact made_tail (D := D) (F := F) (x := x) (u := .non) rfl rfl rfl rfl (r2 _ _ cD4) (r2 _ _ cF4) (Nat.le_trans hK4.1 (by omega)) (by omega) ⟨by omega, hfin.1, hfin.2, _, _, _, _, _, _, _, _, _, _, rfl⟩
    · obtain ⟨_, s6, ⟨_, ⟨fs, hf, hfs⟩, _⟩, x6, x7, x8, x9, x10, x11, x12, x13, x14, x15, rfl⟩ := h
      refine ⟨_, rfl, F, fs, rfl, .inl ⟨SqL.of hf, fun l hl => ?_⟩⟩
      have s7 := same_new (o := .tup fs) hl
      rw [he.1] at hfs
      exact k _ _ (s6.trans s7) ⟨l, fs, rfl, upd_same, hfs.same (fun _ => mo_tho) s7⟩
end
end Ph
set_option linter.all false
set_option maxRecDepth 100000
set_option maxHeartbeats 40000000
set_option exponentiation.threshold 500
namespace Ph
open PySem PySem.Spec PyProof.Rows L2 LamX
/-- a def of the text whose code object is told -/
structure FnCd (K : PySem.W.Frag) (mg : Str → Option Value) (x : Str) (st : Stmt) (c : Addr) : Prop where
  ex : ∃ (f : Addr) (oc : Value) (od : Option Addr) (dV kV doc pm : Value) (an : Option Addr) (ct : Value) (osl : Array (Option Value)), mg x = some (.ref f) ∧
    K.lookup f = some ⟨oc, od, .func (PySem.W.fnOf x x (defArgs st) (defBody st) (defScope st) dV kV doc pm an (.ref c) ct), osl⟩ ∧ PySem.W.codeIn K (.ref c) x = true ∧ DflV K dV [] ∧ KwdV K kV [] ∧ PySem.W.keepIn K (.ref f) = true
section
variable {P : Program} {w : World} {K : PySem.W.Frag} {mg : Str → Option Value} {base : Heap} {CE CN CR : Addr}
theorem Cal.ofCd {x : Str} {st : Stmt} {c : Addr} {N ps : List Str} {k : Nat} {sp : Sp} (F : FnCd K mg x st c) (S : FnScope N ps (defScope st)) (hb : BindN st x ps) (len : ∀ vs H Q E, sp vs H Q E → vs.length = ps.length)
    (hbody : ∀ (f : Addr) (A : Around) (outer : List Env) (s : Shared) (H : Hp) (vs : List V) (Q : VK) (E : XK), Room k (A.deeper (envOfC x (defScope st) s.heap.objs.size f (.ref c))) → sp vs H Q E →
      ∃ t, PSs (cxOf CX0 P w K mg base N x (defScope st) f (.ref c) A outer s H E).nox (defBody st) t ∧ t { nx := fun _ H' => Q .non H', rt := Q } (start N vs) H) : Cal P w K mg base CX0 (k + 1) x ps sp := by
  obtain ⟨f, oc, od, dV, kV, doc, pm, an, ct, osl, h1, lk, hcd, d1, d2, kp⟩ := F.ex
  have F1 : FunD K x x (defArgs st) (defBody st) (defScope st) [] [] f (PySem.W.fnOf x x (defArgs st) (defBody st) (defScope st) dV kV doc pm an (.ref c) ct) := ⟨⟨oc, od, dV, kV, doc, pm, an, .ref c, ct, osl, rfl, lk, hcd, d1, d2⟩, kp⟩
  exact ⟨f, _, fn_of lk hcd S len fun A outer s H vs Q E hr hsp => let ⟨t, a, b⟩ := hbody f A outer s H vs Q E hr hsp; ⟨t, a.nox, b⟩, h1, kp, F1.bindsN hb⟩
abbrev s_drawn : Stmt := top 62
theorem sc_drawn : FnScope ["sketch", "hand"] ["sketch", "hand"] (defScope s_drawn) := ⟨rfl, rfl, rfl, by decide +kernel, rfl, by decide +kernel, by decide +kernel⟩
/-- the lambda's name in the table -/
def lamQ : Str := (envOfC "drawn" (defScope s_drawn) 0 0 .none).qual ++ "<lambda>"
theorem free_by {sc scope : Scope} (h : (scope.names.all fun y => !decide (y.2 = .free) || (decide (sc.names.lookup y.1 = some .cell) || decide (sc.names.lookup y.1 = some .free))) = true) : ∀ y ∈ scope.names, y.2 = .free → sc.names.lookup y.1 = some .cell ∨ sc.names.lookup y.1 = some .free := fun y hy e => by
  have h2 := List.all_eq_true.mp h y hy
  simp only [e, decide_true, Bool.not_true, Bool.false_or, Bool.or_eq_true, decide_eq_true_eq] at h2
  exact h2
def spDrawn (CE : Addr) (T : List (Addr × Str)) : Sp := fun vs H Q _ => ∃ (v u : V) (pl : Pl) (ns : List Rat), vs = [v, u] ∧ PlA pl H v ∧ TupOf (Nm CE) ns H u ∧ PlOk pl ns ∧ Tabs T H ∧ ∀ r H', ExtN H H' → Tabs T H' → TupOf (ThO CE) (draw pl ns) H' r → Q r H'
theorem mi_nums {ns : List Rat} : MoI (TupOf (Nm CE) ns) := mi_tupOf fun _ => mi_num
theorem ok_drawn {c tb : Addr} (TB : TabB base mg c tb) (c_made : Cal P w K mg base CX0 65 "made" ["sketch", "hand", "choose"] (spMade CE)) (F : FnCd K mg "drawn" s_drawn c) :
    Cal P w K mg base CX0 66 "drawn" ["sketch", "hand"] (spDrawn CE [(tb, lamQ)]) := by
  refine Cal.ofCd F sc_drawn (fun _ _ _ _ _ _ us hl => match us, hl with | [_, _], _ => rfl) (fun vs H Q E h => ?_) (fun f A outer s H vs Q E hr h => ?_)
  · obtain ⟨v, u, pl, ns, rfl, _⟩ := h
    rfl
  · obtain ⟨v, u, pl, ns, rfl, hp, hh, ok, hT, k⟩ := h
    refine ⟨_, pss_one (ps_ret (pe_c c_made (hr.mono (by omega)) (pa_cons (pv 0) (pa_cons (pv 1) (pa_cons (pe_lamV (T := [(tb, lamQ)]) TB rfl (List.mem_singleton.mpr rfl) (fun p hp _ => by rw [List.mem_singleton.mp hp]; rfl) rfl (free_by (sc := defScope s_drawn) (by decide +kernel))) pa_nil))))), ?_⟩
    refine ⟨_, rfl, _, rfl, hT, fun fl H1 eN T1 hfl => ?_⟩
    refine ⟨v, u, _, pl, ns, rfl, mi_pl _ _ _ (SameI.ofN eN) hp, mi_nums _ _ _ (SameI.ofN eN) hh, ok, fun r H2 s2 h2 => k r H2 (eN.trans (ExtN.of s2)) (T1.ext s2) h2⟩
end
end Ph
set_option linter.all false
set_option maxRecDepth 100000
set_option maxHeartbeats 40000000
set_option exponentiation.threshold 500
namespace Ph
open PySem PySem.Spec PyProof.Rows L2 LamX
/-- the first n names and their things, the newest first -/
def envN (pl : Pl) (ts : List (Option Thg)) : Nat → Ev
  | 0 => []
  | n + 1 => match pl[n]?, ts[n]? with
    | some s, some o => (s.1, o) :: envN pl ts n
    | _, _ => envN pl ts n
section
variable {P : Program} {w : World} {K : PySem.W.Frag} {mg : Str → Option Value} {base : Heap} {CE CN CR : Addr}
abbrev s_there_in : Stmt := top 53
theorem sc_there_in : FnScope ["sketch", "things", "step", "thing"] ["sketch", "things"] (defScope s_there_in) := ⟨rfl, rfl, rfl, by decide +kernel, rfl, by decide +kernel, by decide +kernel⟩
def spThereIn (CE : Addr) : Sp := fun vs H Q _ => ∃ (v u : V) (pl : Pl) (ts : List (Option Thg)), vs = [v, u] ∧ PlA pl H v ∧ TupOf (ThO CE) ts H u ∧ ts.length = pl.length ∧ pl.length ≤ 100 ∧ ∀ r H', Same H H' → ThereA CE (envN pl ts pl.length) H' r → Q r H'
theorem ok_there_in (B : Bl mg) (F : FnAt K mg "there_in" s_there_in) : Cal P w K mg base CX0 1 "there_in" ["sketch", "things"] (spThereIn CE) := by
  refine Cal.of0 F sc_there_in (fun _ _ _ _ _ _ us hl => match us, hl with | [_, _], _ => rfl) (fun vs H Q E h => ?_) (fun f cdv A outer s H vs Q E hr h => ?_)
  · obtain ⟨v, u, pl, ts, rfl, _⟩ := h
    rfl
  · obtain ⟨v, u, pl, ts, rfl, hp, ht, hl, hn, k⟩ := h
    refine ⟨_, pss_one (ps_ret (pe_dc (own := [("step", 2), ("thing", 3)]) (g := gTup K 2 (gCons (gName 2) (gCons (gName 3) gNil))) (tk := tOp (rIxT K) (tVar 2) (tC (.int 1))) (by rfl) sc_there_in.nd (pi_zipS (by rfl) B.zip (pa_cons (pv 0) (pa_cons (pv 1) pa_nil))) (blkOk_by (own := [("step", 2), ("thing", 3)]) (N := ["sketch", "things", "step", "thing"]) (sc := defScope s_there_in) (by decide +kernel))
        (fun _ _ _ _ _ => pg_tup rfl (pgs_cons (pg_name (i := 2) sc_there_in.nd rfl (by first | exact Or.inl rfl | exact Or.inr rfl)) (pgs_cons (pg_name (i := 3) sc_there_in.nd rfl (by first | exact Or.inl rfl | exact Or.inr rfl)) pgs_nil))) (fun _ _ _ _ _ => pts_nil) (fun _ _ _ _ _ => pe_ix ix_tup (pv 2) pe_int (fun _ _ => rfl)) (fun _ _ _ _ _ => pv 3))), ?_⟩
    obtain ⟨a, us, rfl, ha, he⟩ := id hp
    obtain ⟨b, ws, rfl, hb, hw⟩ := id ht
    refine ⟨_, rfl, _, rfl, a, b, us, ws, rfl, SqT.of ha, SqT.of hb, fun D hD => ?_⟩
    have el : us.length = ws.length := by rw [he.1, hw.1, hl]
    refine dc_it (walk_zs el) (fun i H' => Same H H' ∧ ∃ kvs, H' D = some (.dK kvs) ∧ ThK CE (envN pl ts i) H' kvs ∧ kvs.length ≤ i) ⟨same_new hD, [], upd_same, ThK.nil, Nat.le_refl _⟩ (fun i H' _ h => ⟨SqT.of (h.1 _ _ ha), SqT.of (h.1 _ _ hb)⟩) (fun i x' H1 H2 lt h y => ?_) fun H1 h => ?_
    · obtain ⟨s1, kvs, hk, dt, ln⟩ := h
      obtain ⟨T, x, z, rfl, hT, rfl, e1, e2⟩ := y
      rw [he.1] at lt
      have lt2 : i < ts.length := by omega
      obtain ⟨t, g1, c, rfl, g2⟩ := he.2 i pl[i] (by simp [lt])
      obtain rfl : V.ref c = x := Option.some.inj (g1.symm.trans e1)
      obtain ⟨t2, g3, g4⟩ := hw.2 i ts[i] (by simp [lt2])
      obtain rfl : t2 = z := Option.some.inj (g3.symm.trans e2)
      refine ⟨T, _, rfl, SqT.of upd_same, rfl, _, _, rfl, _, _, rfl, rfl, rfl, ?_⟩
      have s2 := s1.trans (same_new (o := .tup [.ref c, t2]) hT)
      refine ⟨_, rfl, c, _, 1, .str pl[i].1, rfl, rfl, SqT.of (s2 _ _ g2), atI_nat (i := 1) rfl, ?_⟩
      have hk2 := same_new (o := .tup [.ref c, t2]) hT _ _ hk
      refine ⟨_, rfl, kvs, .inr pl[i].1, rfl, hk2, by rw [sizeLine_eq]; omega, same_put s2 hD, _, upd_same, ?_, Nat.le_trans (length_putK _ _ _) (by omega)⟩
      have i1 : SameI H1 (upd (upd H1 T (.tup [.ref c, t2])) D (.dK (putK kvs (.inr pl[i].1) t2))) := (SameI.of (same_new hT)).trans (SameI.put hk2 (fun z => z))
      have ee : envN pl ts (i + 1) = (pl[i].1, ts[i]) :: envN pl ts i := by simp only [envN, List.getElem?_eq_getElem lt, List.getElem?_eq_getElem lt2]
      rw [ee]
      exact (dt.sameI i1).put (mi_tho _ _ _ ((SameI.of s1).trans i1) g4)
    · obtain ⟨s1, kvs, hk, dt, _⟩ := h
      rw [he.1] at dt
      exact k _ H1 s1 ⟨D, kvs, rfl, hk, dt⟩
end
end Ph
set_option linter.all false
set_option maxRecDepth 100000
set_option maxHeartbeats 40000000
set_option exponentiation.threshold 500
namespace Ph
open PySem PySem.Spec PyProof.Rows L2 LamX
def Bv (b : Bool) : Ap := fun _ v => v = .bl b
theorem mo_bv {b : Bool} : Mo (Bv b) := fun _ _ _ _ h => h
section
variable {P : Program} {w : World} {K : PySem.W.Frag} {mg : Str → Option Value} {base : Heap} {CE CN CR : Addr}
theorem sgn_eq {q : Rat} : decide (V.int (sgn q.num) = V.int 0) = decide (q = 0) := by
  by_cases h : q = 0
  · subst h
    rfl
  · rw [decide_eq_false h, decide_eq_false]
    exact fun z => sgn_ne h (V.int.inj z)
/-- x.sign_of() == 0 -/
theorem eg_nought {σ : L2.St} {H : Hp} {te : TE} {q : Rat} (e : EG (Iv (sgn q.num)) te σ H) : EG (Bv (decide (q = 0))) (tOp rEq te (tC (.int 0))) σ H := fun H1 s Q k => e H1 s _ fun v H2 s2 h => by
  obtain rfl : v = .int (sgn q.num) := h
  exact ⟨rfl, k _ H2 s2 (congrArg V.bl sgn_eq)⟩
abbrev s_is_same : Stmt := top 64
theorem sc_is_same : FnScope ["one", "other"] ["one", "other"] (defScope s_is_same) := ⟨rfl, rfl, rfl, by decide +kernel, rfl, by decide +kernel, by decide +kernel⟩
def spSame (CE : Addr) : Sp := fun vs H Q _ => ∃ (v u : V) (q r : Rat) (n m : Nat), vs = [v, u] ∧ Num CE H v q ∧ Num CE H u r ∧ Sm n q ∧ Sm m r ∧ n + m + 1 ≤ 4000000 ∧ ∀ x H', Same H H' → Bv (decide (q - r = 0)) H' x → Q x H'
theorem ok_is_same (X : Mts P w K mg base CE) (F : FnAt K mg "is_same" s_is_same) : Cal P w K mg base CX0 45 "is_same" ["one", "other"] (spSame CE) := by
  refine Cal.of0 F sc_is_same (fun _ _ _ _ _ _ us hl => match us, hl with | [_, _], _ => rfl) (fun vs H Q E h => ?_) (fun f cdv A outer s H vs Q E hr h => ?_)
  · obtain ⟨v, u, q, r, n, m, rfl, _⟩ := h
    rfl
  · obtain ⟨v, u, q, r, n, m, rfl, hq, hr2, zq, zr, hc, k⟩ := h
    have m_sign_of := X.sign
    have m_minus := X.minus
    have T := X.T
    exact ⟨_, (pss_one (ps_ret (pe_cmpR op_eq (pe_mt0 m_sign_of T.cl (hr.mono (by omega)) (pe_mt m_minus T.cl (hr.mono (by omega)) (pv 0) (pa_cons (pv 1) pa_nil))) pe_int (by first | exact nomark _ | rfl)))), (eg_nought (eg_sign (E := E0) (eg_minus (E := E0) (eg_var rfl mo_num hq) (eg_var rfl mo_num hr2) zq zr hc))).run k⟩
theorem eg_same {σ : L2.St} {H : Hp} {ta tb : TE} {q r : Rat} {n m : Nat} {E : XK} (ea : EG (Nm CE q) ta σ H) (eb : EG (Nm CE r) tb σ H) (zq : Sm n q) (zr : Sm m r) (hc : n + m + 1 ≤ 4000000) : EG (Bv (decide (q - r = 0))) (tCall (spSame CE) [] E (tCons ta (tCons tb tNil))) σ H :=
  eg_f2 (A := Nm CE q) (B := Nm CE r) (fun v u H1 Q a b k => ⟨v, u, q, r, n, m, rfl, a, b, zq, zr, hc, k⟩) mo_num ea eb
abbrev s_is_cross_nought : Stmt := top 65
theorem sc_is_cross_nought : FnScope ["one", "other"] ["one", "other"] (defScope s_is_cross_nought) := ⟨rfl, rfl, rfl, by decide +kernel, rfl, by decide +kernel, by decide +kernel⟩
def spCross0 (CE : Addr) : Sp := fun vs H Q _ => ∃ (v u : V) (p q : P2) (n m : Nat), vs = [v, u] ∧ PtA CE p H v ∧ PtA CE q H u ∧ SmP n p ∧ SmP m q ∧ n + m + (n + m) + 1 ≤ 4000000 ∧ ∀ x H', Same H H' → Bv (decide (crsP p q = 0)) H' x → Q x H'
theorem ok_is_cross_nought (X : Mts P w K mg base CE) (c_cross : Cal P w K mg base CX0 41 "cross" ["one", "other"] (spDot CE crsP)) (F : FnAt K mg "is_cross_nought" s_is_cross_nought) : Cal P w K mg base CX0 45 "is_cross_nought" ["one", "other"] (spCross0 CE) := by
  refine Cal.of0 F sc_is_cross_nought (fun _ _ _ _ _ _ us hl => match us, hl with | [_, _], _ => rfl) (fun vs H Q E h => ?_) (fun f cdv A outer s H vs Q E hr h => ?_)
  · obtain ⟨v, u, p, q, n, m, rfl, _⟩ := h
    rfl
  · obtain ⟨v, u, p, q, n, m, rfl, hp, hq, zp, zq, hc, k⟩ := h
    have m_sign_of := X.sign
    have T := X.T
    exact ⟨_, (pss_one (ps_ret (pe_cmpR op_eq (pe_mt0 m_sign_of T.cl (hr.mono (by omega)) (pe_c c_cross (hr.mono (by omega)) (pa_cons (pv 0) (pa_cons (pv 1) pa_nil)))) pe_int (by first | exact nomark _ | rfl)))), (eg_nought (eg_sign (E := E0) (eg_dot (E := E0) (eg_var rfl mo_pt hp) (eg_var rfl mo_pt hq) zp zq hc))).run k⟩
theorem eg_cross0 {σ : L2.St} {H : Hp} {ta tb : TE} {p q : P2} {n m : Nat} {E : XK} (ea : EG (PtA CE p) ta σ H) (eb : EG (PtA CE q) tb σ H) (zp : SmP n p) (zq : SmP m q) (hc : n + m + (n + m) + 1 ≤ 4000000) : EG (Bv (decide (crsP p q = 0))) (tCall (spCross0 CE) [] E (tCons ta (tCons tb tNil))) σ H :=
  eg_f2 (A := PtA CE p) (B := PtA CE q) (fun v u H1 Q a b k => ⟨v, u, p, q, n, m, rfl, a, b, zp, zq, hc, k⟩) mo_pt ea eb
end
end Ph
set_option linter.all false
set_option maxRecDepth 100000
set_option maxHeartbeats 40000000
set_option exponentiation.threshold 500
namespace Ph
open PySem PySem.Spec PyProof.Rows L2 LamX
theorem Each.uncons {α : Type} {A : α → Ap} {x : α} {xs : List α} {H : Hp} {vs : List V} (e : Each A (x :: xs) H vs) : ∃ v ws, vs = v :: ws ∧ A x H v ∧ Each A xs H ws := by
  obtain ⟨hl, k⟩ := e
  cases vs with
  | nil => cases hl
  | cons v ws =>
    obtain ⟨u, a, b⟩ := k 0 x rfl
    obtain rfl : v = u := Option.some.inj a
    exact ⟨v, ws, rfl, b, by simpa using hl, fun i y h => k (i + 1) y h⟩
theorem Each.unnil {α : Type} {A : α → Ap} {H : Hp} {vs : List V} (e : Each A ([] : List α) H vs) : vs = [] := List.length_eq_zero_iff.mp e.1
def PsA (CE : Addr) (ps : List P2) : Ap := fun H v => ∃ a vs, v = .ref a ∧ H a = some (.lst vs) ∧ Each (PtA CE) ps H vs
def sayOne : List P2 → Bool
  | [p, q] => decide ((wayB p q).1 = 0) && decide ((wayB p q).2 = 0)
  | _ => false
def sayRow : List P2 → Bool
  | [p, q, r] => decide (crsP (wayB p q) (wayB p r) = 0)
  | _ => false
def sayAlong : List P2 → Bool
  | [p, q, r, s] => decide (crsP (wayB p q) (wayB r s) = 0)
  | _ => false
def sayUpright : List P2 → Bool
  | [p, q, r, s] => decide (dotP (wayB p q) (wayB r s) = 0)
  | _ => false
def sayAlike : List P2 → Bool
  | [p, q, r, s] => decide (dotP (wayB p q) (wayB p q) - dotP (wayB r s) (wayB r s) = 0)
  | _ => false
def spJudge (CE : Addr) (n : Nat) (g : List P2 → Bool) : Sp := fun vs H Q _ => ∃ (v : V) (ps : List P2), vs = [v] ∧ PsA CE ps H v ∧ ps.length = n ∧ (∀ p ∈ ps, SmP eSz p) ∧ ∀ x H', Same H H' → Bv (g ps) H' x → Q x H'
section
variable {P : Program} {w : World} {K : PySem.W.Frag} {mg : Str → Option Value} {base : Heap} {CE CN CR : Addr}
abbrev s_are_in_row : Stmt := top 67
theorem sc_are_in_row : FnScope ["points", "p", "q", "r"] ["points"] (defScope s_are_in_row) := ⟨rfl, rfl, rfl, by decide +kernel, rfl, by decide +kernel, by decide +kernel⟩
theorem ok_are_in_row (c_way_between : Cal P w K mg base CX0 41 "way_between" ["p", "q"] (spWay CE)) (c_is_cross_nought : Cal P w K mg base CX0 45 "is_cross_nought" ["one", "other"] (spCross0 CE)) (F : FnAt K mg "are_in_row" s_are_in_row) : Cal P w K mg base CX0 46 "are_in_row" ["points"] (spJudge CE 3 sayRow) := by
  refine Cal.of0 F sc_are_in_row (fun _ _ _ _ _ _ us hl => match us, hl with | [_], _ => rfl) (fun vs H Q E h => ?_) (fun f cdv A outer s H vs Q E hr h => ?_)
  · obtain ⟨v, ps, rfl, _⟩ := h
    rfl
  · obtain ⟨v, ps, rfl, ⟨a, us, rfl, ha, he⟩, hl, hz, k⟩ := h
    obtain ⟨p, q, r, rfl⟩ : ∃ p q r, ps = [p, q, r] := match ps, hl with | [p, q, r], _ => ⟨p, q, r, rfl⟩
    obtain ⟨v1, _, rfl, h1, he⟩ := he.uncons
    obtain ⟨v2, _, rfl, h2, he⟩ := he.uncons
    obtain ⟨v3, _, rfl, h3, he⟩ := he.uncons
    obtain rfl := he.unnil
    have eE : eSz = 20000 := rfl
    have z1 := hz p (by simp)
    have z2 := hz q (by simp)
    have z3 := hz r (by simp)
    refine ⟨_, (pss_cons (ps_asg (pv 0) (pg_lst rfl (pgs_cons (pg_name (i := 1) sc_are_in_row.nd rfl (by first | exact Or.inl rfl | exact Or.inr rfl)) (pgs_cons (pg_name (i := 2) sc_are_in_row.nd rfl (by first | exact Or.inl rfl | exact Or.inr rfl)) (pgs_cons (pg_name (i := 3) sc_are_in_row.nd rfl (by first | exact Or.inl rfl | exact Or.inr rfl)) pgs_nil)))))
      (pss_one (ps_ret (pe_c c_is_cross_nought (hr.mono (by omega)) (pa_cons (pe_c c_way_between (hr.mono (by omega)) (pa_cons (pv 1) (pa_cons (pv 2) pa_nil))) (pa_cons (pe_c c_way_between (hr.mono (by omega)) (pa_cons (pv 1) (pa_cons (pv 3) pa_nil))) pa_nil)))))), ?_⟩
    refine ⟨_, rfl, a, _, rfl, SqL.of ha, rfl, ?_⟩
    refine ⟨_, _, rfl, _, _, rfl, _, _, rfl, rfl, ?_⟩
    exact (eg_cross0 (E := E0) (eg_way (E := E0) (eg_var rfl mo_pt h1) (eg_var rfl mo_pt h2) z1 z2 (by omega)) (eg_way (E := E0) (eg_var rfl mo_pt h1) (eg_var rfl mo_pt h3) z1 z3 (by omega)) (z1.way z2) (z1.way z3) (by omega)).run k
abbrev s_are_along : Stmt := top 68
theorem sc_are_along : FnScope ["points", "p", "q", "r", "s"] ["points"] (defScope s_are_along) := ⟨rfl, rfl, rfl, by decide +kernel, rfl, by decide +kernel, by decide +kernel⟩
theorem ok_are_along (c_way_between : Cal P w K mg base CX0 41 "way_between" ["p", "q"] (spWay CE)) (c_is_cross_nought : Cal P w K mg base CX0 45 "is_cross_nought" ["one", "other"] (spCross0 CE)) (F : FnAt K mg "are_along" s_are_along) : Cal P w K mg base CX0 46 "are_along" ["points"] (spJudge CE 4 sayAlong) := by
  refine Cal.of0 F sc_are_along (fun _ _ _ _ _ _ us hl => match us, hl with | [_], _ => rfl) (fun vs H Q E h => ?_) (fun f cdv A outer s H vs Q E hr h => ?_)
  · obtain ⟨v, ps, rfl, _⟩ := h
    rfl
  · obtain ⟨v, ps, rfl, ⟨a, us, rfl, ha, he⟩, hl, hz, k⟩ := h
    obtain ⟨p, q, r, s', rfl⟩ : ∃ p q r s, ps = [p, q, r, s] := match ps, hl with | [p, q, r, s], _ => ⟨p, q, r, s, rfl⟩
    obtain ⟨v1, _, rfl, h1, he⟩ := he.uncons
    obtain ⟨v2, _, rfl, h2, he⟩ := he.uncons
    obtain ⟨v3, _, rfl, h3, he⟩ := he.uncons
    obtain ⟨v4, _, rfl, h4, he⟩ := he.uncons
    obtain rfl := he.unnil
    have eE : eSz = 20000 := rfl
    have z1 := hz p (by simp)
    have z2 := hz q (by simp)
    have z3 := hz r (by simp)
    have z4 := hz s' (by simp)
    refine ⟨_, (pss_cons (ps_asg (pv 0) (pg_lst rfl (pgs_cons (pg_name (i := 1) sc_are_along.nd rfl (by first | exact Or.inl rfl | exact Or.inr rfl)) (pgs_cons (pg_name (i := 2) sc_are_along.nd rfl (by first | exact Or.inl rfl | exact Or.inr rfl)) (pgs_cons (pg_name (i := 3) sc_are_along.nd rfl (by first | exact Or.inl rfl | exact Or.inr rfl)) (pgs_cons (pg_name (i := 4) sc_are_along.nd rfl (by first | exact Or.inl rfl | exact Or.inr rfl)) pgs_nil))))))
      (pss_one (ps_ret (pe_c c_is_cross_nought (hr.mono (by omega)) (pa_cons (pe_c c_way_between (hr.mono (by omega)) (pa_cons (pv 1) (pa_cons (pv 2) pa_nil))) (pa_cons (pe_c c_way_between (hr.mono (by omega)) (pa_cons (pv 3) (pa_cons (pv 4) pa_nil))) pa_nil)))))), ?_⟩
    refine ⟨_, rfl, a, _, rfl, SqL.of ha, rfl, ?_⟩
    refine ⟨_, _, rfl, _, _, rfl, _, _, rfl, _, _, rfl, rfl, ?_⟩
    exact (eg_cross0 (E := E0) (eg_way (E := E0) (eg_var rfl mo_pt h1) (eg_var rfl mo_pt h2) z1 z2 (by omega)) (eg_way (E := E0) (eg_var rfl mo_pt h3) (eg_var rfl mo_pt h4) z3 z4 (by omega)) (z1.way z2) (z3.way z4) (by omega)).run k
abbrev s_are_upright : Stmt := top 69
theorem sc_are_upright : FnScope ["points", "p", "q", "r", "s"] ["points"] (defScope s_are_upright) := ⟨rfl, rfl, rfl, by decide +kernel, rfl, by decide +kernel, by decide +kernel⟩
theorem ok_are_upright (X : Mts P w K mg base CE) (c_way_between : Cal P w K mg base CX0 41 "way_between" ["p", "q"] (spWay CE)) (c_dot : Cal P w K mg base CX0 40 "dot" ["one", "other"] (spDot CE dotP)) (F : FnAt K mg "are_upright" s_are_upright) : Cal P w K mg base CX0 46 "are_upright" ["points"] (spJudge CE 4 sayUpright) := by
  refine Cal.of0 F sc_are_upright (fun _ _ _ _ _ _ us hl => match us, hl with | [_], _ => rfl) (fun vs H Q E h => ?_) (fun f cdv A outer s H vs Q E hr h => ?_)
  · obtain ⟨v, ps, rfl, _⟩ := h
    rfl
  · obtain ⟨v, ps, rfl, ⟨a, us, rfl, ha, he⟩, hl, hz, k⟩ := h
    obtain ⟨p, q, r, s', rfl⟩ : ∃ p q r s, ps = [p, q, r, s] := match ps, hl with | [p, q, r, s], _ => ⟨p, q, r, s, rfl⟩
    obtain ⟨v1, _, rfl, h1, he⟩ := he.uncons
    obtain ⟨v2, _, rfl, h2, he⟩ := he.uncons
    obtain ⟨v3, _, rfl, h3, he⟩ := he.uncons
    obtain ⟨v4, _, rfl, h4, he⟩ := he.uncons
    obtain rfl := he.unnil
    have eE : eSz = 20000 := rfl
    have z1 := hz p (by simp)
    have z2 := hz q (by simp)
    have z3 := hz r (by simp)
    have z4 := hz s' (by simp)
    have m_sign_of := X.sign
    have T := X.T
    refine ⟨_, (pss_cons (ps_asg (pv 0) (pg_lst rfl (pgs_cons (pg_name (i := 1) sc_are_upright.nd rfl (by first | exact Or.inl rfl | exact Or.inr rfl)) (pgs_cons (pg_name (i := 2) sc_are_upright.nd rfl (by first | exact Or.inl rfl | exact Or.inr rfl)) (pgs_cons (pg_name (i := 3) sc_are_upright.nd rfl (by first | exact Or.inl rfl | exact Or.inr rfl)) (pgs_cons (pg_name (i := 4) sc_are_upright.nd rfl (by first | exact Or.inl rfl | exact Or.inr rfl)) pgs_nil))))))
      (pss_one (ps_ret (pe_cmpR op_eq (pe_mt0 m_sign_of T.cl (hr.mono (by omega)) (pe_c c_dot (hr.mono (by omega)) (pa_cons (pe_c c_way_between (hr.mono (by omega)) (pa_cons (pv 1) (pa_cons (pv 2) pa_nil))) (pa_cons (pe_c c_way_between (hr.mono (by omega)) (pa_cons (pv 3) (pa_cons (pv 4) pa_nil))) pa_nil)))) pe_int (by first | exact nomark _ | rfl))))), ?_⟩
    refine ⟨_, rfl, a, _, rfl, SqL.of ha, rfl, ?_⟩
    refine ⟨_, _, rfl, _, _, rfl, _, _, rfl, _, _, rfl, rfl, ?_⟩
    exact (eg_nought (eg_sign (E := E0) (eg_dot (E := E0) (eg_way (E := E0) (eg_var rfl mo_pt h1) (eg_var rfl mo_pt h2) z1 z2 (by omega)) (eg_way (E := E0) (eg_var rfl mo_pt h3) (eg_var rfl mo_pt h4) z3 z4 (by omega)) (z1.way z2) (z3.way z4) (by omega)))).run k
end
end Ph
set_option linter.all false
set_option maxRecDepth 100000
set_option maxHeartbeats 40000000
set_option exponentiation.threshold 500
namespace Ph
open PySem PySem.Spec PyProof.Rows L2 LamX
def sayAngle : List P2 → Bool
  | [a, b, c, d, e, f] => decide (crsP (wayB b a) (wayB b c) * dotP (wayB e d) (wayB e f) - crsP (wayB e d) (wayB e f) * dotP (wayB b a) (wayB b c) = 0)
  | _ => false
/-- the six points as a list or as a tuple -/
def PsB (CE : Addr) (ps : List P2) : Ap := fun H v => ∃ a vs, v = .ref a ∧ (H a = some (.lst vs) ∨ H a = some (.tup vs)) ∧ Each (PtA CE) ps H vs
def spAngles (CE : Addr) : Sp := fun vs H Q _ => ∃ (v : V) (ps : List P2), vs = [v] ∧ PsB CE ps H v ∧ ps.length = 6 ∧ (∀ p ∈ ps, SmP eSz p) ∧ ∀ x H', Same H H' → Bv (sayAngle ps) H' x → Q x H'
section
variable {P : Program} {w : World} {K : PySem.W.Frag} {mg : Str → Option Value} {base : Heap} {CE CN CR : Addr}
abbrev s_are_alike : Stmt := top 70
theorem sc_are_alike : FnScope ["points", "p", "q", "r", "s", "one", "other"] ["points"] (defScope s_are_alike) := ⟨rfl, rfl, rfl, by decide +kernel, rfl, by decide +kernel, by decide +kernel⟩
theorem ok_are_alike (c_way_between : Cal P w K mg base CX0 41 "way_between" ["p", "q"] (spWay CE)) (c_dot : Cal P w K mg base CX0 40 "dot" ["one", "other"] (spDot CE dotP)) (c_is_same : Cal P w K mg base CX0 45 "is_same" ["one", "other"] (spSame CE)) (F : FnAt K mg "are_alike" s_are_alike) : Cal P w K mg base CX0 46 "are_alike" ["points"] (spJudge CE 4 sayAlike) := by
  refine Cal.of0 F sc_are_alike (fun _ _ _ _ _ _ us hl => match us, hl with | [_], _ => rfl) (fun vs H Q E h => ?_) (fun f cdv A outer s H vs Q E hr h => ?_)
  · obtain ⟨v, ps, rfl, _⟩ := h
    rfl
  · obtain ⟨v, ps, rfl, ⟨a, us, rfl, ha, he⟩, hl, hz, k⟩ := h
    obtain ⟨p, q, r, s', rfl⟩ : ∃ p q r s, ps = [p, q, r, s] := match ps, hl with | [p, q, r, s], _ => ⟨p, q, r, s, rfl⟩
    obtain ⟨v1, _, rfl, h1, he⟩ := he.uncons
    obtain ⟨v2, _, rfl, h2, he⟩ := he.uncons
    obtain ⟨v3, _, rfl, h3, he⟩ := he.uncons
    obtain ⟨v4, _, rfl, h4, he⟩ := he.uncons
    obtain rfl := he.unnil
    have eE : eSz = 20000 := rfl
    have z1 := hz p (by simp)
    have z2 := hz q (by simp)
    have z3 := hz r (by simp)
    have z4 := hz s' (by simp)
    have z12 := z1.way z2
    have z34 := z3.way z4
    refine ⟨_, (pss_cons (ps_asg (pv 0) (pg_lst rfl (pgs_cons (pg_name (i := 1) sc_are_alike.nd rfl (by first | exact Or.inl rfl | exact Or.inr rfl)) (pgs_cons (pg_name (i := 2) sc_are_alike.nd rfl (by first | exact Or.inl rfl | exact Or.inr rfl)) (pgs_cons (pg_name (i := 3) sc_are_alike.nd rfl (by first | exact Or.inl rfl | exact Or.inr rfl)) (pgs_cons (pg_name (i := 4) sc_are_alike.nd rfl (by first | exact Or.inl rfl | exact Or.inr rfl)) pgs_nil))))))
      (pss_cons (ps_par (i := 5) (j := 6) (by rfl) sc_are_alike.nd rfl rfl (by decide) rfl rfl (pa_cons (pe_c c_way_between (hr.mono (by omega)) (pa_cons (pv 1) (pa_cons (pv 2) pa_nil))) (pa_cons (pe_c c_way_between (hr.mono (by omega)) (pa_cons (pv 3) (pa_cons (pv 4) pa_nil))) pa_nil)) (by rfl))
      (pss_one (ps_ret (pe_c c_is_same (hr.mono (by omega)) (pa_cons (pe_c c_dot (hr.mono (by omega)) (pa_cons (pv 5) (pa_cons (pv 5) pa_nil))) (pa_cons (pe_c c_dot (hr.mono (by omega)) (pa_cons (pv 6) (pa_cons (pv 6) pa_nil))) pa_nil))))))), ?_⟩
    refine ⟨_, rfl, a, _, rfl, SqL.of ha, rfl, ?_⟩
    refine ⟨_, _, rfl, _, _, rfl, _, _, rfl, _, _, rfl, rfl, ?_⟩
    refine (eg_way (E := E0) (eg_var rfl mo_pt h1) (eg_var rfl mo_pt h2) z1 z2 (by omega)).run fun w1 H1 s1 k1 => ?_
    refine ((eg_way (E := E0) (eg_var rfl mo_pt h3) (eg_var rfl mo_pt h4) z3 z4 (by omega)).ext s1).run fun w2 H2 s2 k2 => ?_
    refine ⟨_, _, rfl, ?_⟩
    exact (eg_same (E := E0) (eg_dot (E := E0) (eg_var rfl mo_pt (mo_pt _ _ _ s2 k1)) (eg_var rfl mo_pt (mo_pt _ _ _ s2 k1)) z12 z12 (by omega)) (eg_dot (E := E0) (eg_var rfl mo_pt k2) (eg_var rfl mo_pt k2) z34 z34 (by omega)) (z12.dot z12) (z34.dot z34) (by omega)).run fun x H3 s3 h3 => k x H3 ((s1.trans s2).trans s3) h3
abbrev s_are_angles : Stmt := top 71
theorem sc_are_angles : FnScope ["points", "a", "b", "c", "d", "e", "f", "first", "second", "third", "fourth", "one"] ["points"] (defScope s_are_angles) := ⟨rfl, rfl, rfl, by decide +kernel, rfl, by decide +kernel, by decide +kernel⟩
theorem ok_are_angles (X : Mts P w K mg base CE) (c_way_between : Cal P w K mg base CX0 41 "way_between" ["p", "q"] (spWay CE)) (c_dot : Cal P w K mg base CX0 40 "dot" ["one", "other"] (spDot CE dotP)) (c_cross : Cal P w K mg base CX0 41 "cross" ["one", "other"] (spDot CE crsP)) (c_is_same : Cal P w K mg base CX0 45 "is_same" ["one", "other"] (spSame CE)) (F : FnAt K mg "are_angles" s_are_angles) :
    Cal P w K mg base CX0 46 "are_angles" ["points"] (spAngles CE) := by
  refine Cal.of0 F sc_are_angles (fun _ _ _ _ _ _ us hl => match us, hl with | [_], _ => rfl) (fun vs H Q E h => ?_) (fun f cdv A outer s H vs Q E hr h => ?_)
  · obtain ⟨v, ps, rfl, _⟩ := h
    rfl
  · obtain ⟨v, ps, rfl, ⟨a, us, rfl, ha, he⟩, hl, hz, k⟩ := h
    obtain ⟨p1, p2, p3, p4, p5, p6, rfl⟩ : ∃ p1 p2 p3 p4 p5 p6, ps = [p1, p2, p3, p4, p5, p6] := match ps, hl with | [p1, p2, p3, p4, p5, p6], _ => ⟨p1, p2, p3, p4, p5, p6, rfl⟩
    obtain ⟨v1, _, rfl, h1, he⟩ := he.uncons
    obtain ⟨v2, _, rfl, h2, he⟩ := he.uncons
    obtain ⟨v3, _, rfl, h3, he⟩ := he.uncons
    obtain ⟨v4, _, rfl, h4, he⟩ := he.uncons
    obtain ⟨v5, _, rfl, h5, he⟩ := he.uncons
    obtain ⟨v6, _, rfl, h6, he⟩ := he.uncons
    obtain rfl := he.unnil
    have eE : eSz = 20000 := rfl
    have z1 := hz p1 (by simp)
    have z2 := hz p2 (by simp)
    have z3 := hz p3 (by simp)
    have z4 := hz p4 (by simp)
    have z5 := hz p5 (by simp)
    have z6 := hz p6 (by simp)
    have y1 := z2.way z1
    have y2 := z2.way z3
    have y3 := z5.way z4
    have y4 := z5.way z6
    have m_times := X.times
    have T := X.T
    rcases ha with ha | ha
    · refine ⟨_, (pss_cons (ps_asg (pv 0) (pg_lst rfl (pgs_cons (pg_name (i := 1) sc_are_angles.nd rfl (by first | exact Or.inl rfl | exact Or.inr rfl)) (pgs_cons (pg_name (i := 2) sc_are_angles.nd rfl (by first | exact Or.inl rfl | exact Or.inr rfl)) (pgs_cons (pg_name (i := 3) sc_are_angles.nd rfl (by first | exact Or.inl rfl | exact Or.inr rfl)) (pgs_cons (pg_name (i := 4) sc_are_angles.nd rfl (by first | exact Or.inl rfl | exact Or.inr rfl)) (pgs_cons (pg_name (i := 5) sc_are_angles.nd rfl (by first | exact Or.inl rfl | exact Or.inr rfl)) (pgs_cons (pg_name (i := 6) sc_are_angles.nd rfl (by first | exact Or.inl rfl | exact Or.inr rfl)) pgs_nil))))))))
      (pss_cons (ps_par (i := 7) (j := 8) (by rfl) sc_are_angles.nd rfl rfl (by decide) rfl rfl (pa_cons (pe_c c_way_between (hr.mono (by omega)) (pa_cons (pv 2) (pa_cons (pv 1) pa_nil))) (pa_cons (pe_c c_way_between (hr.mono (by omega)) (pa_cons (pv 2) (pa_cons (pv 3) pa_nil))) pa_nil)) (by rfl))
      (pss_cons (ps_par (i := 9) (j := 10) (by rfl) sc_are_angles.nd rfl rfl (by decide) rfl rfl (pa_cons (pe_c c_way_between (hr.mono (by omega)) (pa_cons (pv 5) (pa_cons (pv 4) pa_nil))) (pa_cons (pe_c c_way_between (hr.mono (by omega)) (pa_cons (pv 5) (pa_cons (pv 6) pa_nil))) pa_nil)) (by rfl))
      (pss_cons (ps_set (i := 11) sc_are_angles.nd rfl (by first | exact Or.inl rfl | exact Or.inr rfl) (pe_mt m_times T.cl (hr.mono (by omega)) (pe_c c_cross (hr.mono (by omega)) (pa_cons (pv 7) (pa_cons (pv 8) pa_nil))) (pa_cons (pe_c c_dot (hr.mono (by omega)) (pa_cons (pv 9) (pa_cons (pv 10) pa_nil))) pa_nil)))
      (pss_one (ps_ret (pe_c c_is_same (hr.mono (by omega)) (pa_cons (pv 11) (pa_cons (pe_mt m_times T.cl (hr.mono (by omega)) (pe_c c_cross (hr.mono (by omega)) (pa_cons (pv 9) (pa_cons (pv 10) pa_nil))) (pa_cons (pe_c c_dot (hr.mono (by omega)) (pa_cons (pv 7) (pa_cons (pv 8) pa_nil))) pa_nil)) pa_nil))))))))), ?_⟩
      refine ⟨_, rfl, a, _, rfl, SqL.of ha, rfl, ?_⟩
      refine ⟨_, _, rfl, _, _, rfl, _, _, rfl, _, _, rfl, _, _, rfl, _, _, rfl, rfl, ?_⟩
      refine (eg_way (E := E0) (eg_var rfl mo_pt h2) (eg_var rfl mo_pt h1) z2 z1 (by omega)).run fun w1 H1 s1 k1 => ?_
      refine ((eg_way (E := E0) (eg_var rfl mo_pt h2) (eg_var rfl mo_pt h3) z2 z3 (by omega)).ext s1).run fun w2 H2 s2 k2 => ?_
      refine ⟨_, _, rfl, ?_⟩
      have s12 := s1.trans s2
      refine ((eg_way (E := E0) (eg_var rfl mo_pt h5) (eg_var rfl mo_pt h4) z5 z4 (by omega)).ext s12).run fun w3 H3 s3 k3 => ?_
      refine ((eg_way (E := E0) (eg_var rfl mo_pt h5) (eg_var rfl mo_pt h6) z5 z6 (by omega)).ext (s12.trans s3)).run fun w4 H4 s4 k4 => ?_
      refine ⟨_, _, rfl, ?_⟩
      have g1 := mo_pt _ _ _ (s2.trans (s3.trans s4)) k1
      have g2 := mo_pt _ _ _ (s3.trans s4) k2
      have g3 := mo_pt _ _ _ s4 k3
      refine (eg_times (E := E0) (eg_dot (E := E0) (eg_var rfl mo_pt g1) (eg_var rfl mo_pt g2) y1 y2 (by omega)) (eg_dot (E := E0) (eg_var rfl mo_pt g3) (eg_var rfl mo_pt k4) y3 y4 (by omega)) (y1.crs y2) (y3.dot y4) (by show _ + _ + 1 ≤ 4000000; omega)).run fun o1 H5 s5 k5 => ?_
      have f1 := mo_pt _ _ _ s5 g1
      have f2 := mo_pt _ _ _ s5 g2
      have f3 := mo_pt _ _ _ s5 g3
      have f4 := mo_pt _ _ _ s5 k4
      exact (eg_same (E := E0) (eg_var rfl mo_num k5) (eg_times (E := E0) (eg_dot (E := E0) (eg_var rfl mo_pt f3) (eg_var rfl mo_pt f4) y3 y4 (by omega)) (eg_dot (E := E0) (eg_var rfl mo_pt f1) (eg_var rfl mo_pt f2) y1 y2 (by omega)) (y3.crs y4) (y1.dot y2) (by show _ + _ + 1 ≤ 4000000; omega)) ((y1.crs y2).mul (y3.dot y4)) ((y3.crs y4).mul (y1.dot y2)) (by omega)).run fun x H6 s6 h6 => k x H6 ((((s12.trans s3).trans s4).trans s5).trans s6) h6
    · refine ⟨_, (pss_cons (ps_asg (pv 0) (pg_tup rfl (pgs_cons (pg_name (i := 1) sc_are_angles.nd rfl (by first | exact Or.inl rfl | exact Or.inr rfl)) (pgs_cons (pg_name (i := 2) sc_are_angles.nd rfl (by first | exact Or.inl rfl | exact Or.inr rfl)) (pgs_cons (pg_name (i := 3) sc_are_angles.nd rfl (by first | exact Or.inl rfl | exact Or.inr rfl)) (pgs_cons (pg_name (i := 4) sc_are_angles.nd rfl (by first | exact Or.inl rfl | exact Or.inr rfl)) (pgs_cons (pg_name (i := 5) sc_are_angles.nd rfl (by first | exact Or.inl rfl | exact Or.inr rfl)) (pgs_cons (pg_name (i := 6) sc_are_angles.nd rfl (by first | exact Or.inl rfl | exact Or.inr rfl)) pgs_nil))))))))
      (pss_cons (ps_par (i := 7) (j := 8) (by rfl) sc_are_angles.nd rfl rfl (by decide) rfl rfl (pa_cons (pe_c c_way_between (hr.mono (by omega)) (pa_cons (pv 2) (pa_cons (pv 1) pa_nil))) (pa_cons (pe_c c_way_between (hr.mono (by omega)) (pa_cons (pv 2) (pa_cons (pv 3) pa_nil))) pa_nil)) (by rfl))
      (pss_cons (ps_par (i := 9) (j := 10) (by rfl) sc_are_angles.nd rfl rfl (by decide) rfl rfl (pa_cons (pe_c c_way_between (hr.mono (by omega)) (pa_cons (pv 5) (pa_cons (pv 4) pa_nil))) (pa_cons (pe_c c_way_between (hr.mono (by omega)) (pa_cons (pv 5) (pa_cons (pv 6) pa_nil))) pa_nil)) (by rfl))
      (pss_cons (ps_set (i := 11) sc_are_angles.nd rfl (by first | exact Or.inl rfl | exact Or.inr rfl) (pe_mt m_times T.cl (hr.mono (by omega)) (pe_c c_cross (hr.mono (by omega)) (pa_cons (pv 7) (pa_cons (pv 8) pa_nil))) (pa_cons (pe_c c_dot (hr.mono (by omega)) (pa_cons (pv 9) (pa_cons (pv 10) pa_nil))) pa_nil)))
      (pss_one (ps_ret (pe_c c_is_same (hr.mono (by omega)) (pa_cons (pv 11) (pa_cons (pe_mt m_times T.cl (hr.mono (by omega)) (pe_c c_cross (hr.mono (by omega)) (pa_cons (pv 9) (pa_cons (pv 10) pa_nil))) (pa_cons (pe_c c_dot (hr.mono (by omega)) (pa_cons (pv 7) (pa_cons (pv 8) pa_nil))) pa_nil)) pa_nil))))))))), ?_⟩
      refine ⟨_, rfl, a, _, rfl, SqT.of ha, rfl, ?_⟩
      refine ⟨_, _, rfl, _, _, rfl, _, _, rfl, _, _, rfl, _, _, rfl, _, _, rfl, rfl, ?_⟩
      refine (eg_way (E := E0) (eg_var rfl mo_pt h2) (eg_var rfl mo_pt h1) z2 z1 (by omega)).run fun w1 H1 s1 k1 => ?_
      refine ((eg_way (E := E0) (eg_var rfl mo_pt h2) (eg_var rfl mo_pt h3) z2 z3 (by omega)).ext s1).run fun w2 H2 s2 k2 => ?_
      refine ⟨_, _, rfl, ?_⟩
      have s12 := s1.trans s2
      refine ((eg_way (E := E0) (eg_var rfl mo_pt h5) (eg_var rfl mo_pt h4) z5 z4 (by omega)).ext s12).run fun w3 H3 s3 k3 => ?_
      refine ((eg_way (E := E0) (eg_var rfl mo_pt h5) (eg_var rfl mo_pt h6) z5 z6 (by omega)).ext (s12.trans s3)).run fun w4 H4 s4 k4 => ?_
      refine ⟨_, _, rfl, ?_⟩
      have g1 := mo_pt _ _ _ (s2.trans (s3.trans s4)) k1
      have g2 := mo_pt _ _ _ (s3.trans s4) k2
      have g3 := mo_pt _ _ _ s4 k3
      refine (eg_times (E := E0) (eg_dot (E := E0) (eg_var rfl mo_pt g1) (eg_var rfl mo_pt g2) y1 y2 (by omega)) (eg_dot (E := E0) (eg_var rfl mo_pt g3) (eg_var rfl mo_pt k4) y3 y4 (by omega)) (y1.crs y2) (y3.dot y4) (by show _ + _ + 1 ≤ 4000000; omega)).run fun o1 H5 s5 k5 => ?_
      have f1 := mo_pt _ _ _ s5 g1
      have f2 := mo_pt _ _ _ s5 g2
      have f3 := mo_pt _ _ _ s5 g3
      have f4 := mo_pt _ _ _ s5 k4
      exact (eg_same (E := E0) (eg_var rfl mo_num k5) (eg_times (E := E0) (eg_dot (E := E0) (eg_var rfl mo_pt f3) (eg_var rfl mo_pt f4) y3 y4 (by omega)) (eg_dot (E := E0) (eg_var rfl mo_pt f1) (eg_var rfl mo_pt f2) y1 y2 (by omega)) (y3.crs y4) (y1.dot y2) (by show _ + _ + 1 ≤ 4000000; omega)) ((y1.crs y2).mul (y3.dot y4)) ((y3.crs y4).mul (y1.dot y2)) (by omega)).run fun x H6 s6 h6 => k x H6 ((((s12.trans s3).trans s4).trans s5).trans s6) h6
end
end Ph
set_option linter.all false
set_option maxRecDepth 100000
set_option maxHeartbeats 40000000
set_option exponentiation.threshold 500
namespace Ph
open PySem PySem.Spec PyProof.Rows L2 LamX
theorem ret_cb {r : List V → Hp → VK → Prop} {te : TE} {D : Ends} {σ : L2.St} {H : Hp} (h : te σ H fun v H1 => r [v] H1 D.rt) : tRet (tCB r (tCons te tNil)) D σ H := h
def sayRing : List P2 → Bool
  | [p, q, r, s] => sayAngle [p, r, q, p, s, q]
  | _ => false
section
variable {P : Program} {w : World} {K : PySem.W.Frag} {mg : Str → Option Value} {base : Heap} {CE CN CR : Addr}
abbrev s_are_in_ring : Stmt := top 72
theorem sc_are_in_ring : FnScope ["points", "p", "q", "r", "s"] ["points"] (defScope s_are_in_ring) := ⟨rfl, rfl, rfl, by decide +kernel, rfl, by decide +kernel, by decide +kernel⟩
theorem ok_are_in_ring (c_are_angles : Cal P w K mg base CX0 46 "are_angles" ["points"] (spAngles CE)) (F : FnAt K mg "are_in_ring" s_are_in_ring) : Cal P w K mg base CX0 47 "are_in_ring" ["points"] (spJudge CE 4 sayRing) := by
  refine Cal.of0 F sc_are_in_ring (fun _ _ _ _ _ _ us hl => match us, hl with | [_], _ => rfl) (fun vs H Q E h => ?_) (fun f cdv A outer s H vs Q E hr h => ?_)
  · obtain ⟨v, ps, rfl, _⟩ := h
    rfl
  · obtain ⟨v, ps, rfl, ⟨a, us, rfl, ha, he⟩, hl, hz, k⟩ := h
    obtain ⟨p, q, r, s', rfl⟩ : ∃ p q r s, ps = [p, q, r, s] := match ps, hl with | [p, q, r, s], _ => ⟨p, q, r, s, rfl⟩
    obtain ⟨v1, _, rfl, h1, he⟩ := he.uncons
    obtain ⟨v2, _, rfl, h2, he⟩ := he.uncons
    obtain ⟨v3, _, rfl, h3, he⟩ := he.uncons
    obtain ⟨v4, _, rfl, h4, he⟩ := he.uncons
    obtain rfl := he.unnil
    refine ⟨_, (pss_cons (ps_asg (pv 0) (pg_lst rfl (pgs_cons (pg_name (i := 1) sc_are_in_ring.nd rfl (by first | exact Or.inl rfl | exact Or.inr rfl)) (pgs_cons (pg_name (i := 2) sc_are_in_ring.nd rfl (by first | exact Or.inl rfl | exact Or.inr rfl)) (pgs_cons (pg_name (i := 3) sc_are_in_ring.nd rfl (by first | exact Or.inl rfl | exact Or.inr rfl)) (pgs_cons (pg_name (i := 4) sc_are_in_ring.nd rfl (by first | exact Or.inl rfl | exact Or.inr rfl)) pgs_nil))))))
      (pss_one (ps_ret (pe_c c_are_angles (hr.mono (by omega)) (pa_cons (pe_tup (pa_cons (pv 1) (pa_cons (pv 3) (pa_cons (pv 2) (pa_cons (pv 1) (pa_cons (pv 4) (pa_cons (pv 2) pa_nil))))))) pa_nil))))), ?_⟩
    refine ⟨_, rfl, a, _, rfl, SqL.of ha, rfl, ?_⟩
    refine ⟨_, _, rfl, _, _, rfl, _, _, rfl, _, _, rfl, rfl, ?_⟩
    refine ⟨_, rfl, _, rfl, _, rfl, _, rfl, _, rfl, _, rfl, by show 6 ≤ sizeLine; decide, fun t ht => ?_⟩
    have s1 := same_new (o := .tup [v1, v3, v2, v1, v4, v2]) ht
    refine ⟨.ref t, [p, r, q, p, s', q], rfl, ⟨t, _, rfl, .inr upd_same, rfl, fun j x hx => ?_⟩, rfl, fun x hx => hz x ?_, fun x H2 s2 h2 => k x H2 (s1.trans s2) h2⟩
    · match j with
      | 0 => exact ⟨v1, rfl, by cases hx; exact mo_pt _ _ _ s1 h1⟩
      | 1 => exact ⟨v3, rfl, by cases hx; exact mo_pt _ _ _ s1 h3⟩
      | 2 => exact ⟨v2, rfl, by cases hx; exact mo_pt _ _ _ s1 h2⟩
      | 3 => exact ⟨v1, rfl, by cases hx; exact mo_pt _ _ _ s1 h1⟩
      | 4 => exact ⟨v4, rfl, by cases hx; exact mo_pt _ _ _ s1 h4⟩
      | 5 => exact ⟨v2, rfl, by cases hx; exact mo_pt _ _ _ s1 h2⟩
    · simp only [List.mem_cons, List.not_mem_nil, or_false] at hx ⊢
      rcases hx with h | h | h | h | h | h <;> simp [h]
abbrev s_are_one : Stmt := top 66
theorem sc_are_one : FnScope ["points", "p", "q", "number"] ["points"] (defScope s_are_one) := ⟨rfl, rfl, rfl, by decide +kernel, rfl, by decide +kernel, by decide +kernel⟩
theorem ok_are_one (B : Bl mg) (X : Mts P w K mg base CE) (c_way_between : Cal P w K mg base CX0 41 "way_between" ["p", "q"] (spWay CE)) (F : FnAt K mg "are_one" s_are_one) : Cal P w K mg base CX0 46 "are_one" ["points"] (spJudge CE 2 sayOne) := by
  refine Cal.of0 F sc_are_one (fun _ _ _ _ _ _ us hl => match us, hl with | [_], _ => rfl) (fun vs H Q E h => ?_) (fun f cdv A outer s H vs Q E hr h => ?_)
  · obtain ⟨v, ps, rfl, _⟩ := h
    rfl
  · obtain ⟨v, ps, rfl, ⟨a, us, rfl, ha, he⟩, hl, hz, k⟩ := h
    obtain ⟨p, q, rfl⟩ : ∃ p q, ps = [p, q] := match ps, hl with | [p, q], _ => ⟨p, q, rfl⟩
    obtain ⟨v1, _, rfl, h1, he⟩ := he.uncons
    obtain ⟨v2, _, rfl, h2, he⟩ := he.uncons
    obtain rfl := he.unnil
    have eE : eSz = 20000 := rfl
    have z1 := hz p (by simp)
    have z2 := hz q (by simp)
    have m_sign_of := X.sign
    have T := X.T
    refine ⟨_, (pss_cons (ps_asg (pv 0) (pg_lst rfl (pgs_cons (pg_name (i := 1) sc_are_one.nd rfl (by first | exact Or.inl rfl | exact Or.inr rfl)) (pgs_cons (pg_name (i := 2) sc_are_one.nd rfl (by first | exact Or.inl rfl | exact Or.inr rfl)) pgs_nil))))
      (pss_one (ps_ret (pe_callB (cr_all rfl) (by rfl) B.all (by decide +kernel) (pa_cons (pe_lc (own := [("number", 3)]) (g := gName 3) (te := tOp rEq (tMeth CE "sign_of" (spSign CE) [] E0 (tVar 3) tNil) (tC (.int 0))) (by rfl) sc_are_one.nd (pi_tup (pe_c c_way_between (hr.mono (by omega)) (pa_cons (pv 1) (pa_cons (pv 2) pa_nil)))) (blkOk_by (own := [("number", 3)]) (N := ["points", "p", "q", "number"]) (sc := defScope s_are_one) (by decide +kernel)) (fun _ _ _ _ _ => (pg_name (i := 3) sc_are_one.nd rfl (by first | exact Or.inl rfl | exact Or.inr rfl))) (fun _ _ _ _ _ => pts_nil) (fun _ _ _ _ _ => (pe_cmpR op_eq (pe_mt0 m_sign_of T.cl (hr.mono (by omega)) (pv 3)) pe_int (nomark _)))) pa_nil))))), ?_⟩
    refine ⟨_, rfl, a, _, rfl, SqL.of ha, rfl, ?_⟩
    refine ⟨_, _, rfl, _, _, rfl, rfl, ?_⟩
    have e1 : EG (LsA 2 (fun i => Bv (decide ((if i = 0 then (wayB p q).1 else (wayB p q).2) = 0)))) (tLc (iTup K (tCall (spWay CE) [] E0 (tCons (tVar 1) (tCons (tVar 2) tNil)))) (gName 3) tYes (tOp rEq (tMeth CE "sign_of" (spSign CE) [] E0 (tVar 3) tNil) (tC (.int 0))) [3]) [some (.ref a), some v1, some v2, none] H :=
      eg_comp (B := fun i => Nm CE (if i = 0 then (wayB p q).1 else (wayB p q).2)) (ig_tup (fun i => mo_num) ((eg_way (E := E0) (eg_var rfl mo_pt h1) (eg_var rfl mo_pt h2) z1 z2 (by omega)).imp fun _ _ h => pt_tp h)) (by decide) (fun i _ _ _ _ h => h) fun i z H2 s2 lt hz2 => ⟨_, fun Q q => q, rfl, eg_nought (eg_sign (E := E0) (eg_var rfl mo_num hz2))⟩
    dsimp only
    refine ret_cb ?_
    refine e1.run fun v3 H2 s2 h3 => ?_
    obtain ⟨b, bs, rfl, hb, hbl, hbs⟩ := h3
    obtain ⟨y1, q1, r1⟩ := hbs 0 (by decide)
    obtain ⟨y2, q2, r2⟩ := hbs 1 (by decide)
    have r1 : y1 = .bl (decide ((wayB p q).1 = 0)) := r1
    have r2 : y2 = .bl (decide ((wayB p q).2 = 0)) := r2
    have eb : bs = [decide ((wayB p q).1 = 0), decide ((wayB p q).2 = 0)].map V.bl := by
      refine List.ext_getElem? fun j => ?_
      match j with
      | 0 => rw [q1, r1]; rfl
      | 1 => rw [q2, r2]; rfl
      | j + 2 => simp [hbl]
    subst eb
    exact ⟨b, _, rfl, SqL.of hb, k _ H2 s2 (by show _ = _; simp [sayOne])⟩
end
end Ph
set_option linter.all false
set_option maxRecDepth 100000
set_option maxHeartbeats 40000000
set_option exponentiation.threshold 500
namespace Ph
open PySem PySem.Spec PyProof.Rows L2 LamX
def sayAt (p : P2) : Thg → Bool
  | .ln l _ _ => decide (dotP p (dirL l) - l.2.2 = 0)
  | .ci m q => decide (dotP (wayB m p) (wayB m p) - dotP (wayB m q) (wayB m q) = 0)
  | .pt _ => false
section
variable {P : Program} {w : World} {K : PySem.W.Frag} {mg : Str → Option Value} {base : Heap} {CE CN CR : Addr}
theorem eg_len {K : PySem.W.Frag} {σ : L2.St} {H : Hp} {i : Nat} {a : Addr} {xs : List V} (h : σ[i]? = some (some (.ref a))) (ha : H a = some (.tup xs)) :
    EG (Iv xs.length) (tCB (fun vs H Q => ∃ p ys, vs = [.ref p] ∧ (SqL K H p ys ∨ SqT K H p ys) ∧ Q (.int ys.length) H) (tCons (tVar i) tNil)) σ H := fun H1 s Q k => ⟨_, h, a, xs, rfl, .inr (SqT.of (s _ _ ha)), k _ H1 (Same.refl _) rfl⟩
abbrev s_is_at : Stmt := top 73
theorem sc_is_at : FnScope ["both", "p", "thing", "middle", "square", "way"] ["both"] (defScope s_is_at) := ⟨rfl, rfl, rfl, by decide +kernel, rfl, by decide +kernel, by decide +kernel⟩
def spAt (CE : Addr) : Sp := fun vs H Q _ => ∃ (a : Addr) (u t : V) (p : P2) (th : Thg), vs = [.ref a] ∧ H a = some (.lst [u, t]) ∧ PtA CE p H u ∧ ThO CE (some th) H t ∧ SmP eSz p ∧ th.sm eSz ∧ (∀ q, th ≠ .pt q) ∧ ∀ x H', Same H H' → Bv (sayAt p th) H' x → Q x H'
theorem ok_is_at (B : Bl mg) (c_way_between : Cal P w K mg base CX0 41 "way_between" ["p", "q"] (spWay CE)) (c_dot : Cal P w K mg base CX0 40 "dot" ["one", "other"] (spDot CE dotP)) (c_is_same : Cal P w K mg base CX0 45 "is_same" ["one", "other"] (spSame CE)) (F : FnAt K mg "is_at" s_is_at) : Cal P w K mg base CX0 46 "is_at" ["both"] (spAt CE) := by
  refine Cal.of0 F sc_is_at (fun _ _ _ _ _ _ us hl => match us, hl with | [_], _ => rfl) (fun vs H Q E h => ?_) (fun f cdv A outer s H vs Q E hr h => ?_)
  · obtain ⟨a, u, t, p, th, rfl, _⟩ := h
    rfl
  · obtain ⟨a, u, t, p, th, rfl, ha, hp, ht, zp, zt, hn, k⟩ := h
    have eE : eSz = 20000 := rfl
    refine ⟨_, (pss_cons (ps_asg (pv 0) (pg_lst rfl (pgs_cons (pg_name (i := 1) sc_is_at.nd rfl (by first | exact Or.inl rfl | exact Or.inr rfl)) (pgs_cons (pg_name (i := 2) sc_is_at.nd rfl (by first | exact Or.inl rfl | exact Or.inr rfl)) pgs_nil))))
      (pss_cons (ps_if (pt_cmpR op_eq (pe_callB call_len_seq (by rfl) B.len (by decide +kernel) (pa_cons (pv 2) pa_nil)) pe_int (by first | exact nomark _ | rfl)) (pss_one (ps_ret (pe_c c_is_same (hr.mono (by omega)) (pa_cons (pe_c c_dot (hr.mono (by omega)) (pa_cons (pv 1) (pa_cons (pe_slice sl_tup (pv 2) po_none (po_some pe_int)) pa_nil))) (pa_cons (pe_ix ix_tup (pv 2) pe_int (fun _ _ => rfl)) pa_nil))))) pss_nil)
      (pss_cons (ps_asg (pv 2) (pg_tup rfl (pgs_cons (pg_name (i := 3) sc_is_at.nd rfl (by first | exact Or.inl rfl | exact Or.inr rfl)) (pgs_cons (pg_name (i := 4) sc_is_at.nd rfl (by first | exact Or.inl rfl | exact Or.inr rfl)) pgs_nil))))
      (pss_cons (ps_set (i := 5) sc_is_at.nd rfl (by first | exact Or.inl rfl | exact Or.inr rfl) (pe_c c_way_between (hr.mono (by omega)) (pa_cons (pv 3) (pa_cons (pv 1) pa_nil))))
      (pss_one (ps_ret (pe_c c_is_same (hr.mono (by omega)) (pa_cons (pe_c c_dot (hr.mono (by omega)) (pa_cons (pv 5) (pa_cons (pv 5) pa_nil))) (pa_cons (pv 4) pa_nil))))))))), ?_⟩
    refine ⟨_, rfl, a, _, rfl, SqL.of ha, rfl, ?_⟩
    refine ⟨_, _, rfl, _, _, rfl, rfl, ?_⟩
    cases th with
    | pt q => exact absurd rfl (hn q)
    | ln l b w' =>
      obtain ⟨la, x1, x2, x3, rfl, hla, l1, l2, l3⟩ := id (show LnA CE l H t from ht)
      have hl : LnA CE l H (.ref la) := ht
      have zl : SmL eSz l := zt
      refine ⟨_, rfl, la, _, rfl, .inr (SqT.of hla), rfl, _, rfl, ?_⟩
      refine yes rfl ?_
      exact (eg_same (E := E0) (eg_dot (E := E0) (eg_var rfl mo_pt hp) (eg_dir rfl hl) zp zl.dir (by omega)) (eg_lc rfl hl) (zp.dot zl.dir) zl.2.2 (by omega)).run k
    | ci m q =>
      obtain ⟨ca, x1, x2, rfl, hca, c1, c2⟩ := id (show CiA CE (circC m q) H t from ht)
      have zm : SmP eSz m ∧ SmP eSz q := zt
      have zmp := zm.1.way zp
      have zr : Sm (4 * (2 * eSz + 1) + 1) (circC m q).2 := ((zm.1.way zm.2).dot (zm.1.way zm.2)).mono (by omega)
      refine ⟨_, rfl, ca, _, rfl, .inr (SqT.of hca), rfl, _, rfl, ?_⟩
      refine no rfl ?_
      refine ⟨_, rfl, ca, _, rfl, SqT.of hca, rfl, ?_⟩
      refine ⟨_, _, rfl, _, _, rfl, rfl, ?_⟩
      refine (eg_way (E := E0) (eg_var rfl mo_pt c1) (eg_var rfl mo_pt hp) zm.1 zp (by omega)).run fun w1 H1 s1 k1 => ?_
      exact (eg_same (E := E0) (eg_dot (E := E0) (eg_var rfl mo_pt k1) (eg_var rfl mo_pt k1) zmp zmp (by omega)) (eg_var rfl mo_num (Num.ext c2 s1)) (zmp.dot zmp) zr (by omega)).run fun x H2 s2 h2 => k x H2 (s1.trans s2) h2
end
end Ph
set_option linter.all false
set_option maxRecDepth 100000
set_option maxHeartbeats 40000000
set_option exponentiation.threshold 500
namespace Ph
open PySem PySem.Spec PyProof.Rows L2 LamX
inductive Jd where
  | same | row | along | upright | alike | angle | ring | lies
  deriving DecidableEq
def Jd.word : Jd → Str
  | .same => "same" | .row => "row" | .along => "along" | .upright => "upright" | .alike => "alike" | .angle => "angle" | .ring => "ring" | .lies => "at"
def Jd.fn : Jd → Str
  | .same => "are_one" | .row => "are_in_row" | .along => "are_along" | .upright => "are_upright" | .alike => "are_alike" | .angle => "are_angles" | .ring => "are_in_ring" | .lies => "is_at"
def Jd.say : Jd → List P2 → Bool
  | .same => sayOne | .row => sayRow | .along => sayAlong | .upright => sayUpright | .alike => sayAlike | .angle => sayAngle | .ring => sayRing | .lies => fun _ => false
def Jd.many : Jd → Nat
  | .same => 2 | .row => 3 | .angle => 6 | .lies => 2 | _ => 4
abbrev Clm := Jd × List Str
def ClA (c : Clm) : Ap := fun H v => ∃ a, v = .ref a ∧ H a = some (.tup (.str c.1.word :: c.2.map V.str))
theorem mi_cl {c : Clm} : MoI (ClA c) := fun _ _ _ s ⟨a, e, h⟩ => ⟨a, e, s _ _ h True.intro⟩
structure Judges (K : PySem.W.Frag) (w : World) (mg : Str → Option Value) : Prop where
  ex : ∃ a es n, mg "JUDGES" = some (.ref a) ∧ KDict K w a es n ∧ ∀ j : Jd, ∃ f, PySem.W.nsIn K a j.word = some (some (.ref f)) ∧ mg j.fn = some (.ref f)
def Jd.sp (CE : Addr) : Jd → Sp
  | .lies => spAt CE
  | .angle => spAngles CE
  | j => spJudge CE j.many j.say
def JdSp (mg : Str → Option Value) (CE : Addr) (f : Addr) (sp : Sp) : Prop := ∃ j : Jd, mg j.fn = some (.ref f) ∧ sp = j.sp CE
/-- the names' things, all there -/
def clThs (E : Ev) (ns : List Str) : List (Option Thg) := ns.map (thg E)
def Thg.pt? : Thg → Option P2
  | .pt p => some p
  | _ => none
/-- they fit the claim -/
def FitJ : Jd → List Thg → Prop
  | .lies, ts => ∃ p t, ts = [.pt p, t] ∧ ∀ q, t ≠ .pt q
  | j, ts => ∃ ps : List P2, ts = ps.map Thg.pt ∧ ps.length = j.many
def sayTs : Jd → List Thg → Bool
  | .lies, [.pt p, t] => sayAt p t
  | j, ts => j.say (ts.filterMap Thg.pt?)
section
variable {P : Program} {w : World} {K : PySem.W.Frag} {mg : Str → Option Value} {base : Heap} {CE CN CR : Addr}
structure JdDefs (P : Program) (w : World) (K : PySem.W.Frag) (mg : Str → Option Value) (base : Heap) (CE : Addr) : Prop where
  one : Cal P w K mg base CX0 46 "are_one" ["points"] (spJudge CE 2 sayOne)
  row : Cal P w K mg base CX0 46 "are_in_row" ["points"] (spJudge CE 3 sayRow)
  along : Cal P w K mg base CX0 46 "are_along" ["points"] (spJudge CE 4 sayAlong)
  upr : Cal P w K mg base CX0 46 "are_upright" ["points"] (spJudge CE 4 sayUpright)
  alike : Cal P w K mg base CX0 46 "are_alike" ["points"] (spJudge CE 4 sayAlike)
  ang : Cal P w K mg base CX0 46 "are_angles" ["points"] (spAngles CE)
  ring : Cal P w K mg base CX0 47 "are_in_ring" ["points"] (spJudge CE 4 sayRing)
  at_ : Cal P w K mg base CX0 46 "is_at" ["both"] (spAt CE)
theorem JdDefs.held (D : JdDefs P w K mg base CE) (f : Addr) (sp : Sp) (h : JdSp mg CE f sp) : HeldX P w K mg base CX0 47 f sp := by
  obtain ⟨j, hm, rfl⟩ := h
  cases j with
  | same => exact HeldX.of D.one hm (by omega)
  | row => exact HeldX.of D.row hm (by omega)
  | along => exact HeldX.of D.along hm (by omega)
  | upright => exact HeldX.of D.upr hm (by omega)
  | alike => exact HeldX.of D.alike hm (by omega)
  | angle => exact HeldX.of D.ang hm (by omega)
  | ring => exact HeldX.of D.ring hm (by omega)
  | lies => exact HeldX.of D.at_ hm (by omega)
end
end Ph
set_option linter.all false
set_option maxRecDepth 100000
set_option maxHeartbeats 40000000
set_option exponentiation.threshold 500
namespace Ph
open PySem PySem.Spec PyProof.Rows L2 LamX
theorem pts_each {CE : Addr} {H : Hp} : ∀ {ps : List P2} {vs : List V}, Each (fun t => ThO CE (some t)) (ps.map Thg.pt) H vs → Each (PtA CE) ps H vs := fun {ps vs} e => ⟨by simpa using e.1, fun i p h => e.2 i (.pt p) (by simp [h])⟩
theorem fm_pts : ∀ ps : List P2, (ps.map Thg.pt).filterMap Thg.pt? = ps
  | [] => rfl
  | p :: r => congrArg (p :: ·) (fm_pts r)
section
variable {CE : Addr}
theorem judge_run {j : Jd} {ts : List Thg} {H : Hp} {D : Addr} {vs : List V} {Q : VK} {EX : XK} (hD : H D = some (.lst vs)) (he : Each (fun t => ThO CE (some t)) ts H vs) (fit : FitJ j ts) (hz : ∀ t ∈ ts, t.sm eSz) (k : ∀ x H', Same H H' → Bv (sayTs j ts) H' x → Q x H') : j.sp CE [.ref D] H Q EX := by
  have pts : ∀ ps : List P2, ts = ps.map Thg.pt → PsA CE ps H (.ref D) ∧ ∀ p ∈ ps, SmP eSz p := fun ps e => by
    subst e
    exact ⟨⟨D, vs, rfl, hD, pts_each he⟩, fun p hp => hz (.pt p) (List.mem_map_of_mem hp)⟩
  cases j with
  | lies =>
    obtain ⟨p, t, rfl, hn⟩ := fit
    obtain ⟨v1, _, rfl, h1, he⟩ := he.uncons
    obtain ⟨v2, _, rfl, h2, he⟩ := he.uncons
    obtain rfl := he.unnil
    exact ⟨D, v1, v2, p, t, rfl, hD, h1, h2, hz (.pt p) (by simp), hz t (by simp), hn, k⟩
  | angle =>
    obtain ⟨ps, rfl, hl⟩ := fit
    obtain ⟨a, z⟩ := pts ps rfl
    refine ⟨.ref D, ps, rfl, ⟨D, vs, rfl, .inl hD, pts_each he⟩, hl, z, fun x H' s h => k x H' s ?_⟩
    show x = V.bl (sayAngle _)
    rw [fm_pts]
    exact h
  | same =>
    obtain ⟨ps, rfl, hl⟩ := fit
    obtain ⟨a, z⟩ := pts ps rfl
    refine ⟨.ref D, ps, rfl, a, hl, z, fun x H' s h => k x H' s ?_⟩
    show x = V.bl (sayOne _)
    rw [fm_pts]
    exact h
  | row =>
    obtain ⟨ps, rfl, hl⟩ := fit
    obtain ⟨a, z⟩ := pts ps rfl
    refine ⟨.ref D, ps, rfl, a, hl, z, fun x H' s h => k x H' s ?_⟩
    show x = V.bl (sayRow _)
    rw [fm_pts]
    exact h
  | along =>
    obtain ⟨ps, rfl, hl⟩ := fit
    obtain ⟨a, z⟩ := pts ps rfl
    refine ⟨.ref D, ps, rfl, a, hl, z, fun x H' s h => k x H' s ?_⟩
    show x = V.bl (sayAlong _)
    rw [fm_pts]
    exact h
  | upright =>
    obtain ⟨ps, rfl, hl⟩ := fit
    obtain ⟨a, z⟩ := pts ps rfl
    refine ⟨.ref D, ps, rfl, a, hl, z, fun x H' s h => k x H' s ?_⟩
    show x = V.bl (sayUpright _)
    rw [fm_pts]
    exact h
  | alike =>
    obtain ⟨ps, rfl, hl⟩ := fit
    obtain ⟨a, z⟩ := pts ps rfl
    refine ⟨.ref D, ps, rfl, a, hl, z, fun x H' s h => k x H' s ?_⟩
    show x = V.bl (sayAlike _)
    rw [fm_pts]
    exact h
  | ring =>
    obtain ⟨ps, rfl, hl⟩ := fit
    obtain ⟨a, z⟩ := pts ps rfl
    refine ⟨.ref D, ps, rfl, a, hl, z, fun x H' s h => k x H' s ?_⟩
    show x = V.bl (sayRing _)
    rw [fm_pts]
    exact h
end
end Ph
set_option linter.all false
set_option maxRecDepth 100000
set_option maxHeartbeats 40000000
set_option exponentiation.threshold 500
namespace Ph
open PySem PySem.Spec PyProof.Rows L2 LamX
theorem sq {a b : TS} {D : Ends} {σ : L2.St} {H : Hp} (h : a { D with nx := b D } σ H) : tSeq a b D σ H := h
theorem drop_c {sp : Sp} {EX : XK} {te : TE} {D : Ends} {σ : L2.St} {H : Hp} (h : te σ H fun v H1 => sp [v] H1 (fun _ H2 => D.nx σ H2) EX) : tDrop (tCall sp [] EX (tCons te tNil)) D σ H := h
theorem fm_all {f : Str → Option Thg} : ∀ {l : List Str}, (∀ y ∈ l, (f y).isSome = true) → (l.filterMap f).length = l.length ∧ ∀ j : Nat, (l.filterMap f)[j]? = (l[j]?).bind f
  | [], _ => ⟨rfl, fun j => by simp⟩
  | y :: l, h => by
    obtain ⟨t, ht⟩ := Option.isSome_iff_exists.mp (h y (by simp))
    obtain ⟨h1, h2⟩ := fm_all (f := f) (l := l) fun z hz => h z (by simp [hz])
    rw [List.filterMap_cons_some ht]
    refine ⟨by simp [h1], fun j => ?_⟩
    cases j with
    | zero => simp [ht]
    | succ j => simpa using h2 j
/-- what is told of a claim: None where a thing is None -/
def told (E : Ev) (c : Clm) : Option Bool := if (c.2.all fun y => (thg E y).isSome) = true then some (sayTs c.1 (c.2.filterMap (thg E))) else none
def toldV : Option Bool → V
  | none => .non
  | some b => .bl b
section
variable {P : Program} {w : World} {K : PySem.W.Frag} {mg : Str → Option Value} {base : Heap} {CE CN CR : Addr}
abbrev s_is_so_by : Stmt := top 75
theorem sc_is_so_by : FnScope ["sketch", "things", "saying", "word", "names", "there", "name", "judge"] ["sketch", "things", "saying"] (defScope s_is_so_by) := ⟨rfl, rfl, rfl, by decide +kernel, rfl, by decide +kernel, by decide +kernel⟩
structure ClOk (E : Ev) (c : Clm) : Prop where
  few : c.2.length ≤ 6
  ref : ∀ y ∈ c.2, ∃ o, eL E y = some o
  fit : (∀ y ∈ c.2, (thg E y).isSome = true) → FitJ c.1 (c.2.filterMap (thg E))
def spSoBy (CE : Addr) : Sp := fun vs H Q _ => ∃ (v u y : V) (pl : Pl) (ts : List (Option Thg)) (c : Clm), vs = [v, u, y] ∧ PlA pl H v ∧ TupOf (ThO CE) ts H u ∧ ts.length = pl.length ∧ pl.length ≤ 100 ∧ ClA c H y ∧ ClOk (envN pl ts pl.length) c ∧ EvSm (envN pl ts pl.length) ∧
  ∀ H', Same H H' → Q (toldV (told (envN pl ts pl.length) c)) H'
theorem ok_is_so_by (B : Bl mg) (D : JdDefs P w K mg base CE) (J : Judges K w mg) (c_must_agree : Cal P w K mg base CX0 40 "must_agree" ["things"] (spAgree CE)) (c_there_in : Cal P w K mg base CX0 1 "there_in" ["sketch", "things"] (spThereIn CE)) (F : FnAt K mg "is_so_by" s_is_so_by) :
    Cal P w K mg base CX0 48 "is_so_by" ["sketch", "things", "saying"] (spSoBy CE) := by
  refine Cal.of0 F sc_is_so_by (fun _ _ _ _ _ _ us hl => match us, hl with | [_, _, _], _ => rfl) (fun vs H Q E h => ?_) (fun f cdv A outer s H vs Q E hr h => ?_)
  · obtain ⟨v, u, y, pl, ts, c, rfl, _⟩ := h
    rfl
  · obtain ⟨v, u, y, pl, ts, c, rfl, hp, ht, hl, hn, hc, ok, zE, k⟩ := h
    have hu : (A.deeper (envOfC "is_so_by" (defScope s_is_so_by) s.heap.objs.size f cdv)).units + 1 < cLine := by
      have := hr.un
      omega
    obtain ⟨pj, es, n, mj, kd, kf⟩ := J.ex
    refine ⟨_, (pss_cons (ps_asg (pv 2) (pg_star (i := 1) rfl (pgs_cons (pg_name (i := 3) sc_is_so_by.nd rfl (by first | exact Or.inl rfl | exact Or.inr rfl)) (pgs_st (pgs_cons (pg_name (i := 4) sc_is_so_by.nd rfl (by first | exact Or.inl rfl | exact Or.inr rfl)) pgs_nil)))))
      (pss_cons (ps_set (i := 5) sc_is_so_by.nd rfl (by first | exact Or.inl rfl | exact Or.inr rfl) (pe_c c_there_in (hr.mono (by omega)) (pa_cons (pv 0) (pa_cons (pv 1) pa_nil))))
      (pss_cons (ps_if (pt_val (pe_callB (cr_any rfl) (by rfl) B.any (by decide +kernel) (pa_cons (pe_lc (own := [("name", 6)]) (g := gName 6) (te := tIsN (tDGet (tVar 5) (tVar 6))) (by rfl) sc_is_so_by.nd (pi_list (pv 4)) (blkOk_by (own := [("name", 6)]) (N := ["sketch", "things", "saying", "word", "names", "there", "name", "judge"]) (sc := defScope s_is_so_by) (by decide +kernel)) (fun _ _ _ _ _ => (pg_name (i := 6) sc_is_so_by.nd rfl (by first | exact Or.inl rfl | exact Or.inr rfl))) (fun _ _ _ _ _ => pts_nil) (fun _ _ _ _ _ => (pe_cmp (pc_isN (pe_dget hu (pv 5) (pv 6) (fun _ _ => rfl))) rfl))) pa_nil))) (pss_one (ps_ret pe_non)) pss_nil)
      (pss_cons (ps_expr (pe_c c_must_agree (hr.mono (by omega)) (pa_cons (pe_lc (own := [("name", 6)]) (g := gName 6) (te := tDGet (tVar 5) (tVar 6)) (by rfl) sc_is_so_by.nd (pi_list (pv 4)) (blkOk_by (own := [("name", 6)]) (N := ["sketch", "things", "saying", "word", "names", "there", "name", "judge"]) (sc := defScope s_is_so_by) (by decide +kernel)) (fun _ _ _ _ _ => (pg_name (i := 6) sc_is_so_by.nd rfl (by first | exact Or.inl rfl | exact Or.inr rfl))) (fun _ _ _ _ _ => pts_nil) (fun _ _ _ _ _ => (pe_dget hu (pv 5) (pv 6) (fun _ _ => rfl)))) pa_nil)))
      (pss_cons (ps_set (i := 7) sc_is_so_by.nd rfl (by first | exact Or.inl rfl | exact Or.inr rfl) (pe_ix ix_kdict (pe_glob (v := .ref pj) (by rfl) mj rfl) (pv 3) (fun _ _ => rfl)))
      (pss_one (ps_ret (pe_callS (S := JdSp mg CE) (i := 7) (E := E0) (k := 47) (CX := CX0) D.held (hr.mono (by omega)) pass0 rfl (.inl rfl) (pa_cons (pe_lc (own := [("name", 6)]) (g := gName 6) (te := tDGet (tVar 5) (tVar 6)) (by rfl) sc_is_so_by.nd (pi_list (pv 4)) (blkOk_by (own := [("name", 6)]) (N := ["sketch", "things", "saying", "word", "names", "there", "name", "judge"]) (sc := defScope s_is_so_by) (by decide +kernel)) (fun _ _ _ _ _ => (pg_name (i := 6) sc_is_so_by.nd rfl (by first | exact Or.inl rfl | exact Or.inr rfl))) (fun _ _ _ _ _ => pts_nil) (fun _ _ _ _ _ => (pe_dget hu (pv 5) (pv 6) (fun _ _ => rfl)))) pa_nil))))))))), ?_⟩
    obtain ⟨a, rfl, hca⟩ := hc
    have few := ok.few
    refine ⟨_, rfl, a, _, rfl, .inl (SqT.of hca), by show 1 ≤ (c.2.map V.str).length + 1; omega, by show (c.2.map V.str).length + 1 ≤ 16384; rw [List.length_map]; omega, fun N hN => ?_⟩
    refine ⟨_, _, rfl, _, _, rfl, rfl, ?_⟩
    dsimp only
    rw [show List.drop 1 (V.str c.1.word :: c.2.map V.str) = c.2.map V.str from rfl]
    have s1 : Same H (upd H N (.lst (c.2.map V.str))) := same_new hN
    have cN := upd_same (H := H) (a := N) (o := .lst (c.2.map V.str))
    generalize upd H N (.lst (c.2.map V.str)) = H1 at s1 cN ⊢
    refine ⟨_, rfl, _, rfl, v, u, pl, ts, rfl, mo_pl _ _ _ s1 hp, mo_tupOf (fun _ => mo_tho) _ _ _ s1 ht, hl, hn, fun r H2 s2 hr2 => ?_⟩
    refine gN ?_
    dsimp only
    refine sq ?_
    refine if_cb ?_
    have nms : ∀ {Hz : Hp}, Same H2 Hz → LsA c.2.length (fun j => fun _ z => z = .str (c.2.getD j "")) Hz (.ref N) := fun {Hz} s => ⟨N, _, rfl, s _ _ (s2 _ _ cN), by simp, fun j lj => ⟨.str (c.2.getD j ""), by simp [List.getD_eq_getElem?_getD, lj], rfl⟩⟩
    have eget : ∀ {Hz : Hp} {j : Nat} {σ : L2.St}, Same H2 Hz → j < c.2.length → σ[5]? = some (some r) → σ[6]? = some (some (.str (c.2.getD j ""))) → EG (ThO CE (thg (envN pl ts pl.length) (c.2.getD j ""))) (tDGet (tVar 5) (tVar 6)) σ Hz := fun {Hz j σ} s lj h5 h6 => by
      have mem : c.2.getD j "" ∈ c.2 := by
        rw [List.getD_eq_getElem?_getD, List.getElem?_eq_getElem lj]
        exact List.getElem_mem lj
      obtain ⟨o, ho⟩ := ok.ref _ mem
      rw [thg_of ho]
      exact eg_there h5 (mo_there _ _ _ s hr2) ho (eg_var h6 mo_str rfl)
    have eA : EG (LsA c.2.length (fun j => Bv (!(thg (envN pl ts pl.length) (c.2.getD j "")).isSome))) (tLc (iList K (tVar 4)) (gName 6) tYes (tIsN (tDGet (tVar 5) (tVar 6))) [6]) [some v, some u, some (.ref a), some (.str c.1.word), some (.ref N), some r, none, none] H2 :=
      eg_comp (B := fun j => fun _ z => z = .str (c.2.getD j "")) (ig_list (fun j => mo_str) (eg_var rfl (mo_lsA fun j => mo_str) (nms (Same.refl _)))) (by omega) (fun j _ _ _ _ h => h) fun j z Hz s lj hz => ⟨_, fun Q q => q, rfl, fun H3 s3 Q q => by
        subst hz
        refine (eget (s.trans s3) lj rfl rfl).run fun x H4 s4 hx => q _ H4 s4 ?_
        cases ho : thg (envN pl ts pl.length) (c.2.getD j "") with
        | none =>
          rw [ho] at hx
          obtain rfl : x = .non := hx
          rfl
        | some tt =>
          rw [ho] at hx
          obtain ⟨q, rfl⟩ := hx.ne
          rfl⟩
    refine eA.run fun v2 H3 s3 h3 => ?_
    obtain ⟨bl, bs, rfl, hbl, hbn, hbs⟩ := h3
    have ebs : bs = (c.2.map fun y => !(thg (envN pl ts pl.length) y).isSome).map V.bl := by
      refine List.ext_getElem? fun j => ?_
      by_cases lj : j < c.2.length
      · obtain ⟨y, e1, e2⟩ := hbs j lj
        have e2 : y = .bl (!(thg (envN pl ts pl.length) (c.2.getD j "")).isSome) := e2
        rw [e1, e2, List.getD_eq_getElem?_getD, List.getElem?_eq_getElem lj]
        simp [lj]
      · simp [hbn, lj]
    subst ebs
    refine ⟨bl, _, rfl, SqL.of hbl, _, rfl, ?_⟩
    by_cases all : (c.2.all fun y => (thg (envN pl ts pl.length) y).isSome) = true
    · have all2 : ∀ y ∈ c.2, (thg (envN pl ts pl.length) y).isSome = true := List.all_eq_true.mp all
      refine no (by
        rw [List.any_eq_false]
        intro b hb
        obtain ⟨y, hy, rfl⟩ := List.mem_map.mp hb
        simp [all2 y hy]) ?_
      have eT : ∀ {Hz : Hp} {x7 : Option V}, Same H2 Hz → EG (LsA c.2.length (fun j => ThO CE (thg (envN pl ts pl.length) (c.2.getD j "")))) (tLc (iList K (tVar 4)) (gName 6) tYes (tDGet (tVar 5) (tVar 6)) [6]) [some v, some u, some (.ref a), some (.str c.1.word), some (.ref N), some r, none, x7] Hz := fun {Hz x7} s =>
        eg_comp (B := fun j => fun _ z => z = .str (c.2.getD j "")) (ig_list (fun j => mo_str) (eg_var rfl (mo_lsA fun j => mo_str) (nms s))) (by omega) (fun j => mi_tho) fun j z Hw s' lj hz => ⟨_, fun Q q => q, rfl, by
          subst hz
          exact eget (s.trans s') lj rfl rfl⟩
      have et : told (envN pl ts pl.length) c = some (sayTs c.1 (c.2.filterMap (thg (envN pl ts pl.length)))) := if_pos all
      have some_of : ∀ {j : Nat} (lj : j < c.2.length), ∃ tt, thg (envN pl ts pl.length) (c.2.getD j "") = some tt := fun {j} lj => by
        have := all2 (c.2.getD j "") (by
          rw [List.getD_eq_getElem?_getD, List.getElem?_eq_getElem lj]
          exact List.getElem_mem lj)
        exact Option.isSome_iff_exists.mp this
      unfold tNext
      dsimp only
      refine sq ?_
      refine drop_c ?_
      refine (eT (x7 := none) s3).run fun v4 H4 s4 h4 => ?_
      obtain ⟨q4, as, rfl, hq4, hq5, hq6⟩ := h4
      have hrl : RL CE 4 H4 (.ref q4) := by
        refine .inr ⟨q4, as, rfl, .inr hq4, by omega, fun z hz => ?_⟩
        obtain ⟨j, hj⟩ := List.getElem?_of_mem hz
        have lj : j < c.2.length := by
          rw [← hq5]
          exact (List.getElem?_eq_some_iff.mp hj).1
        obtain ⟨y, e1, e2⟩ := hq6 j lj
        obtain rfl : y = z := Option.some.inj (e1.symm.trans hj)
        obtain ⟨tt, htt⟩ := some_of lj
        have e2 : ThO CE (thg (envN pl ts pl.length) (c.2.getD j "")) H4 y := e2
        rw [htt] at e2
        exact rl_th e2
      refine ⟨.ref q4, rfl, hrl, fun H5 s5 => ?_⟩
      obtain ⟨fa, kf1, kf2⟩ := kf c.1
      refine ⟨_, rfl, pj, c.1.word, .ref fa, rfl, rfl, ⟨es, n, .ref fa, kd.at_, kd.lit, kf1, rfl⟩, ?_⟩
      refine ⟨fa, _, rfl, ⟨c.1, kf2, rfl⟩, ?_⟩
      refine (eT (x7 := some (.ref fa)) ((s3.trans s4).trans s5)).run fun v6 H6 s6 h6 => ?_
      obtain ⟨q6, bs6, rfl, hq7, hq8, hq9⟩ := h6
      obtain ⟨fl, fj⟩ := fm_all all2
      refine judge_run hq7 ⟨by rw [hq8, fl], fun j t hj => ?_⟩ (ok.fit all2) (fun t ht => ?_) fun x H7 s7 hx => ?_
      · have lj : j < c.2.length := by
          rw [← fl]
          exact (List.getElem?_eq_some_iff.mp hj).1
        obtain ⟨y, e1, e2⟩ := hq9 j lj
        have e2 : ThO CE (thg (envN pl ts pl.length) (c.2.getD j "")) H6 y := e2
        rw [fj, List.getElem?_eq_getElem lj] at hj
        have hj : thg (envN pl ts pl.length) c.2[j] = some t := hj
        rw [List.getD_eq_getElem?_getD, List.getElem?_eq_getElem lj] at e2
        have e2 : ThO CE (thg (envN pl ts pl.length) c.2[j]) H6 y := e2
        rw [hj] at e2
        exact ⟨y, e1, e2⟩
      · obtain ⟨y, _, hy⟩ := List.mem_filterMap.mp ht
        exact zE y t hy
      · obtain rfl : x = .bl _ := hx
        have := k H7 ((((((s1.trans s2).trans s3).trans s4).trans s5).trans s6).trans s7)
        rw [et] at this
        exact this
    · refine yes (by simpa using all) ?_
      have et : told (envN pl ts pl.length) c = none := if_neg all
      have := k H3 ((s1.trans s2).trans s3)
      rw [et] at this
      exact this
end
end Ph
set_option linter.all false
set_option maxRecDepth 100000
set_option maxHeartbeats 40000000
set_option exponentiation.threshold 500
namespace Ph
open PySem PySem.Spec PyProof.Rows L2 LamX
section
variable {P : Program} {w : World} {K : PySem.W.Frag} {mg : Str → Option Value} {base : Heap} {CE CN CR : Addr}
abbrev s_is_so : Stmt := top 76
theorem sc_is_so : FnScope ["sketch", "hand", "saying"] ["sketch", "hand", "saying"] (defScope s_is_so) := ⟨rfl, rfl, rfl, by decide +kernel, rfl, by decide +kernel, by decide +kernel⟩
def spSo (CE : Addr) (T : List (Addr × Str)) : Sp := fun vs H Q _ => ∃ (v u y : V) (pl : Pl) (ns : List Rat) (c : Clm), vs = [v, u, y] ∧ PlA pl H v ∧ TupOf (Nm CE) ns H u ∧ PlOk pl ns ∧ (draw pl ns).length = pl.length ∧ Tabs T H ∧ ClA c H y ∧ ClOk (envN pl (draw pl ns) pl.length) c ∧
  EvSm (envN pl (draw pl ns) pl.length) ∧ ∀ H', ExtN H H' → Tabs T H' → Q (toldV (told (envN pl (draw pl ns) pl.length) c)) H'
theorem ok_is_so {T : List (Addr × Str)} (c_drawn : Cal P w K mg base CX0 66 "drawn" ["sketch", "hand"] (spDrawn CE T)) (c_is_so_by : Cal P w K mg base CX0 48 "is_so_by" ["sketch", "things", "saying"] (spSoBy CE)) (F : FnAt K mg "is_so" s_is_so) : Cal P w K mg base CX0 67 "is_so" ["sketch", "hand", "saying"] (spSo CE T) := by
  refine Cal.of0 F sc_is_so (fun _ _ _ _ _ _ us hl => match us, hl with | [_, _, _], _ => rfl) (fun vs H Q E h => ?_) (fun f cdv A outer s H vs Q E hr h => ?_)
  · obtain ⟨v, u, y, pl, ns, c, rfl, _⟩ := h
    rfl
  · obtain ⟨v, u, y, pl, ns, c, rfl, hp, hh, ok, hl, hT, hc, hk, zE, k⟩ := h
    refine ⟨_, (pss_one (ps_ret (pe_c c_is_so_by (hr.mono (by omega)) (pa_cons (pv 0) (pa_cons (pe_c c_drawn (hr.mono (by omega)) (pa_cons (pv 0) (pa_cons (pv 1) pa_nil))) (pa_cons (pv 2) pa_nil)))))), ?_⟩
    refine ⟨_, rfl, _, rfl, _, rfl, v, u, pl, ns, rfl, hp, hh, ok, hT, fun r H1 eN T1 h1 => ?_⟩
    refine ⟨_, rfl, v, r, y, pl, draw pl ns, c, rfl, mi_pl _ _ _ (SameI.ofN eN) hp, h1, hl, ok.len, mi_cl _ _ _ (SameI.ofN eN) hc, hk, zE, fun H2 s2 => k H2 (eN.trans (ExtN.of s2)) (T1.ext s2)⟩
end
end Ph
set_option linter.all false
set_option maxRecDepth 100000
set_option maxHeartbeats 40000000
set_option exponentiation.threshold 500
namespace Ph
open PySem PySem.Spec PyProof.Rows L2 LamX
/-! ### the deck -/
/-- the deck's list at D, its cells at C -/
structure Deck (D C : Addr) (H : Hp) : Prop where
  ne : D ≠ C
  ex : ∃ (cs : List Int) (c : Int) (n : Nat), H D = some (.lst [.ref C, .int c, .int n]) ∧ H C = some (.lst (cs.map V.int)) ∧ cs.length ≤ 63
/-- all but the deck is as it was -/
def KpD (D C : Addr) (H H' : Hp) : Prop := ∀ b o, b ≠ D → b ≠ C → H b = some o → H' b = some o
theorem KpD.refl {D C : Addr} {H : Hp} : KpD D C H H := fun _ _ _ _ h => h
theorem KpD.trans {D C : Addr} {H H1 H2 : Hp} (a : KpD D C H H1) (b : KpD D C H1 H2) : KpD D C H H2 := fun c o n m h => b c o n m (a c o n m h)
theorem KpD.of {D C : Addr} {H H' : Hp} (s : Same H H') : KpD D C H H' := fun b o _ _ h => s b o h
theorem Deck.same {D C : Addr} {H H' : Hp} (d : Deck D C H) (s : Same H H') : Deck D C H' := by
  obtain ⟨cs, c, n, h1, h2, h4⟩ := d.ex
  exact ⟨d.ne, cs, c, n, s _ _ h1, s _ _ h2, h4⟩
theorem KpD.immI {D C : Addr} {H H' : Hp} (k : KpD D C H H') (d : Deck D C H) : SameI H H' := by
  obtain ⟨cs, c, n, h1, h2, h4⟩ := d.ex
  intro a o e i
  refine k a o (fun z => ?_) (fun z => ?_) e
  · subst z
    rw [h1] at e
    cases e
    exact i
  · subst z
    rw [h2] at e
    cases e
    exact i
theorem cut63 (ns : List Int) : ∃ cs : List Int, cutV (ns.map V.int) none (some 63) = cs.map V.int ∧ cs.length ≤ 63 := by
  refine ⟨ns.take (min 63 ns.length), ?_, by rw [List.length_take]; omega⟩
  show ((ns.map V.int).drop (HT.sIx _ 0 none)).take (HT.sIx _ _ (some ((63 : Nat) : Int)) - HT.sIx _ 0 none) = _
  rw [HT.sIx_none, HT.sIx_nat, List.drop_zero, List.length_map, List.map_take, Nat.sub_zero]
section
variable {P : Program} {w : World} {K : PySem.W.Frag} {mg : Str → Option Value} {base : Heap} {CE CN CR : Addr}
abbrev s__law_deck : Stmt := top 78
theorem sc__law_deck : FnScope ["_law_script", "_law_cells"] ["_law_script"] (defScope s__law_deck) := ⟨rfl, rfl, rfl, by decide +kernel, rfl, by decide +kernel, by decide +kernel⟩
def spDeck (K : PySem.W.Frag) : Sp := fun vs H Q _ => ∃ (v : V) (a : Addr) (ns : List Int), vs = [v] ∧ v = .ref a ∧ SqL K H a (ns.map V.int) ∧ ∀ D C H', Same H H' → H D = none → H C = none → Deck D C H' → Q (.ref D) H'
theorem ok_deck (B : Bl mg) (F : FnAt K mg "_law_deck" s__law_deck) : Cal P w K mg base CX0 1 "_law_deck" ["_law_script"] (spDeck K) := by
  refine Cal.of0 F sc__law_deck (fun _ _ _ _ _ _ us hl => match us, hl with | [_], _ => rfl) (fun vs H Q E h => ?_) (fun f cdv A outer s H vs Q E hr h => ?_)
  · obtain ⟨v, a, ns, rfl, _⟩ := h
    rfl
  · obtain ⟨v, a, ns, rfl, rfl, ha, k⟩ := h
    refine ⟨_, (pss_cons (ps_set (i := 1) sc__law_deck.nd rfl (by first | exact Or.inl rfl | exact Or.inr rfl) (pe_callTy call_list_of (by rfl) B.list (by decide +kernel) (pa_cons (pe_slice sl_list (pv 0) po_none (po_some pe_int)) pa_nil)))
      (pss_one (ps_ret (pe_lst (pa_cons (pv 1) (pa_cons (pe_op op_add pe_int (pe_op op_mod (pe_callB (cr_sum rfl) (by rfl) B.sum (by decide +kernel) (pa_cons (pv 1) pa_nil)) pe_int)) (pa_cons pe_int pa_nil))))))), ?_⟩
    refine ⟨_, rfl, 63, rfl, a, _, rfl, ha, fun p0 hp0 => ⟨p0, _, rfl, .inl (SqL.of upd_same), fun C hC => ?_⟩⟩
    obtain ⟨cs, ec, lc⟩ := cut63 ns
    rw [ec] at hC ⊢
    have s1 : Same H (upd H p0 (.lst (cs.map V.int))) := same_new hp0
    have s2 := s1.trans (same_new (o := .lst (cs.map V.int)) hC)
    refine ⟨_, rfl, _, rfl, C, cs, rfl, SqL.of upd_same, _, _, rfl, rfl, by show (0 : Int) < 2147483563; decide, _, _, rfl, rfl, by show 3 ≤ sizeLine; decide, fun D hD => ?_⟩
    have nC : H C = none := s1.free hC
    have nD : H D = none := s2.free hD
    have cC := upd_same (H := upd H p0 (.lst (cs.map V.int))) (a := C) (o := .lst (cs.map V.int))
    refine k D C _ (s2.trans (same_new hD)) nD nC ⟨fun z => ?_, cs, _, 0, upd_same, same_new hD _ _ cC, lc⟩
    rw [z, cC] at hD
    cases hD
end
end Ph
set_option linter.all false
set_option maxRecDepth 100000
set_option maxHeartbeats 40000000
set_option exponentiation.threshold 500
namespace Ph
open PySem PySem.Spec PyProof.Rows L2 LamX
open C8 (pss_cut)
/-! ### a draw -/
theorem at0 {x : V} {r : List V} : atI (x :: r) (0 : Int) = some x := atI_nat (i := 0) rfl
theorem ix0 {x : V} {r : List V} : ixN (x :: r).length (0 : Int) = some 0 := by
  unfold ixN
  simp
theorem seq0 {x : V} {r : List V} : seqIndex? 0 (x :: r).length = some 0 := by
  unfold seqIndex?
  simp
theorem Deck.ints {D C : Addr} {H : Hp} {cs : List Int} {c n : Int} (ne : D ≠ C) (h1 : H D = some (.lst [.ref C, .int c, .int n])) (h2 : H C = some (.lst (cs.map V.int))) (l : cs.length ≤ 63) (hn : 0 ≤ n) : Deck D C H := by
  obtain ⟨m, rfl⟩ := Int.eq_ofNat_of_zero_le hn
  exact ⟨ne, cs, c, m, h1, h2, l⟩
theorem KpD.d {D C : Addr} {H H' : Hp} {o : HO} (k : KpD D C H H') : KpD D C H (upd H' D o) := fun b u n1 n2 e => by
  rw [upd_ne n1]
  exact k b u n1 n2 e
theorem KpD.c {D C : Addr} {H H' : Hp} {o : HO} (k : KpD D C H H') : KpD D C H (upd H' C o) := fun b u n1 n2 e => by
  rw [upd_ne n2]
  exact k b u n1 n2 e
theorem KpD.new {D C : Addr} {H H' : Hp} {o : HO} {p : Addr} (k : KpD D C H H') (n : H' p = none) : KpD D C H (upd H' p o) := k.trans (KpD.of (same_new n))
theorem dp_ints {K : PySem.W.Frag} {H : Hp} : ∀ ns : List Int, DpAll K H (ns.map V.int) (ns.map PyData.int)
  | [] => .nil
  | n :: r => .cons (.int n) (dp_ints r)
theorem ne_nil_ints (ns : List Int) : (!PyData.eqv (.list (ns.map PyData.int)) (.list [])) = !ns.isEmpty := by
  cases ns <;> rfl
section
variable {P : Program} {w : World} {K : PySem.W.Frag} {mg : Str → Option Value} {base : Heap} {CE CN CR : Addr}
abbrev s__law_draw : Stmt := top 79
theorem sc__law_draw : FnScope ["_law_deck_here", "_law_many_here", "_law_digit", "_law_cell", "_law_number_here"] ["_law_deck_here", "_law_many_here"] (defScope s__law_draw) := ⟨rfl, rfl, rfl, by decide +kernel, rfl, by decide +kernel, by decide +kernel⟩
def spDraw : Sp := fun vs H Q _ => ∃ (D C : Addr) (m : Int), vs = [.ref D, .int m] ∧ 0 < m ∧ m ≤ 1000000 ∧ Deck D C H ∧ ∀ k H', 0 ≤ k → k < m → KpD D C H H' → Deck D C H' → Q (.int k) H'
theorem small2 {a m : Int} (h : 0 < m) (h2 : m < 2 ^ 64) : (a % m).natAbs < 2 ^ 64 := by
  have h3 := Int.emod_nonneg a (b := m) (by omega)
  have h4 := Int.emod_lt_of_pos a h
  omega
theorem mulV {i j : Int} (hi : i.natAbs < 2 ^ 64) (hj : j.natAbs < 2 ^ 64) : CMulV i j := mw (i4_of hi) (i4_of hj)
theorem ok__law_draw (F : FnAt K mg "_law_draw" s__law_draw) : Cal P w K mg base CX0 1 "_law_draw" ["_law_deck_here", "_law_many_here"] spDraw := by
  refine Cal.of0 F sc__law_draw (fun _ _ _ _ _ _ us hl => match us, hl with | [_, _], _ => rfl) (fun vs H Q E h => ?_) (fun f cdv A outer s H vs Q E hr h => ?_)
  · obtain ⟨D, C, m, rfl, _⟩ := h
    rfl
  · obtain ⟨D, C, m, rfl, m0, m1, dk, k⟩ := h
    have hu : (A.deeper (envOfC "_law_draw" (defScope s__law_draw) s.heap.objs.size f cdv)).units + 64 < cLine := by
      have := hr.un
      omega
    obtain ⟨ne, cs, c, n, h1, h2, hl⟩ := dk
    refine ⟨_, (pss_cons (ps_asg (pe_op op_add (pe_ix ix_list (pv 0) pe_int (fun _ _ => rfl)) pe_int) (pg_sub (pv 0) pe_int set_list))
      (pss_cut (ps_if (PW.pt (pw_and (pt_cmpR (op_neD hu) (pe_ix ix_list (pv 0) pe_int (fun _ _ => rfl)) (pe_lst pa_nil) (by first | exact nomark _ | rfl)) (pw_and1 (pt_cmpR op_ge (pe_ix ix_list (pe_ix ix_list (pv 0) pe_int (fun _ _ => rfl)) pe_int (fun _ _ => rfl)) (pe_op op_pow pe_int pe_int) (by first | exact nomark _ | rfl))))) (pss_cons (ps_set (i := 2) sc__law_draw.nd rfl (by first | exact Or.inl rfl | exact Or.inr rfl) (pe_op op_mod (pe_ix ix_list (pe_ix ix_list (pv 0) pe_int (fun _ _ => rfl)) pe_int (fun _ _ => rfl)) (pv 1)))
      (pss_cons (ps_asg (pe_op op_fdivN (pe_ix ix_list (pe_ix ix_list (pv 0) pe_int (fun _ _ => rfl)) pe_int (fun _ _ => rfl)) (pv 1)) (pg_sub (pe_ix ix_list (pv 0) pe_int (fun _ _ => rfl)) pe_int set_list))
      (pss_one (ps_ret (pv 2))))) pss_nil)
      (pss_cons (ps_set (i := 3) sc__law_draw.nd rfl (by first | exact Or.inl rfl | exact Or.inr rfl) (pe_ix ix_list (pv 0) pe_int (fun _ _ => rfl)))
      (pss_cut (ps_if (pt_cmpR (op_neD hu) (pe_ix ix_list (pv 0) pe_int (fun _ _ => rfl)) (pe_lst pa_nil) (by first | exact nomark _ | rfl)) (pss_one (ps_set (i := 3) sc__law_draw.nd rfl (by first | exact Or.inl rfl | exact Or.inr rfl) (pe_op op_add (pv 3) (pe_bm PySem.F.plainAttrs_list PySem.F.slot_list_pop PySem.F.type_list_pop mt_popAt (pe_ix ix_list (pv 0) pe_int (fun _ _ => rfl)) (pa_cons pe_int pa_nil))))) pss_nil)
      (pss_cons (ps_set (i := 4) sc__law_draw.nd rfl (by first | exact Or.inl rfl | exact Or.inr rfl) (pe_op op_mod (pe_op op_add (pe_op op_add (pe_op op_mulV (pe_op op_mod (pv 3) pe_int) pe_int) (pe_op op_mul pe_int (pe_ix ix_list (pv 0) pe_int (fun _ _ => rfl)))) pe_int) pe_int))
      (pss_cons (ps_set (i := 4) sc__law_draw.nd rfl (by first | exact Or.inl rfl | exact Or.inr rfl) (pe_op op_mod (pe_op op_add (pe_op op_add (pe_op op_mulV (pv 4) (pv 4)) (pe_op op_mulV pe_int (pv 4))) (pe_ix ix_list (pv 0) pe_int (fun _ _ => rfl))) pe_int))
      (pss_cons (ps_asg (pv 4) (pg_sub (pv 0) pe_int set_list))
      (pss_one (ps_ret (pe_op op_mod (pe_op op_fdivW (pe_op op_mod (pe_op op_mulV (pv 4) (pe_op op_add (pv 4) pe_int)) pe_int) pe_int) (pv 1))))))))))), ?_⟩
    have i0 : ∀ {x y z : V}, atI [x, y, z] (0 : Int) = some x := fun {x y z} => rfl
    have i1 : ∀ {x y z : V}, atI [x, y, z] (1 : Int) = some y := fun {x y z} => rfl
    have i2 : ∀ {x y z : V}, atI [x, y, z] (2 : Int) = some z := fun {x y z} => rfl
    refine ⟨_, rfl, D, _, 2, _, rfl, rfl, SqL.of h1, i2, _, _, rfl, rfl, ?_⟩
    refine ⟨_, rfl, D, _, 2, 2, rfl, rfl, h1, rfl, ?_⟩
    dsimp only [List.set]
    have s1 : KpD D C H (upd H D (.lst [.ref C, .int c, .int (n + 1)])) := KpD.refl.d
    have e1 : upd H D (.lst [.ref C, .int c, .int ((n : Int) + 1)]) D = some (.lst [.ref C, .int c, .int (n + 1)]) := upd_same
    have e2 : upd H D (.lst [.ref C, .int c, .int ((n : Int) + 1)]) C = some (.lst (cs.map V.int)) := by
      rw [upd_ne (Ne.symm ne)]
      exact h2
    generalize upd H D (.lst [.ref C, .int c, .int ((n : Int) + 1)]) = H1 at s1 e1 e2 ⊢
    refine ⟨fun σ' H' => σ' = [some (.ref D), some (.int m), none, none, none] ∧ KpD D C H H' ∧ H' D = some (.lst [.ref C, .int c, .int (n + 1)]) ∧ H' C = some (.lst (cs.map V.int)), ?_, ?_⟩
    · refine ⟨_, rfl, D, _, 0, _, rfl, rfl, SqL.of e1, i0, Nat.zero_le _, fun p hp => ?_⟩
      have nC : C ≠ p := ne_of_none e2 hp
      have nD : D ≠ p := ne_of_none e1 hp
      have s2 := same_new (o := .lst []) hp
      refine ⟨_, _, .lst (SqL.of (s2 _ _ e2)) (dp_ints cs), .lst (SqL.of upd_same) .nil, PySem.W.ke_shaped_ints cs, rfl, _, rfl, ?_⟩
      have fin : KpD D C H (upd H1 p (.lst [])) ∧ upd H1 p (.lst []) D = some (.lst [.ref C, .int c, .int (n + 1)]) ∧ upd H1 p (.lst []) C = some (.lst (cs.map V.int)) := ⟨s1.new hp, s2 _ _ e1, s2 _ _ e2⟩
      generalize upd H1 p (.lst []) = H2 at fin
      obtain ⟨f1, f2, f3⟩ := fin
      rw [ne_nil_ints]
      cases cs with
      | nil => exact no rfl ⟨rfl, f1, f2, f3⟩
      | cons x r =>
        refine yes rfl ?_
        refine ⟨_, rfl, D, _, 0, _, rfl, rfl, SqL.of f2, i0, C, _, 0, .int x, rfl, rfl, SqL.of f3, at0, 10, 18, rfl, rfl, ⟨by decide, by decide, by decide⟩, _, _, rfl, rfl, _, rfl, ?_⟩
        by_cases hx : (10 : Int) ^ (18 : Int).toNat ≤ x
        · refine yes (by simpa using hx) ?_
          refine ⟨_, rfl, D, _, 0, _, rfl, rfl, SqL.of f2, i0, C, _, 0, .int x, rfl, rfl, SqL.of f3, at0, _, rfl, _, _, rfl, rfl, m0, ?_⟩
          refine ⟨_, rfl, D, _, 0, _, rfl, rfl, SqL.of f2, i0, C, _, 0, .int x, rfl, rfl, SqL.of f3, at0, _, rfl, _, _, rfl, rfl, ⟨by omega, by omega⟩, ?_⟩
          refine ⟨_, rfl, D, _, 0, _, rfl, rfl, SqL.of f2, i0, C, _, 0, 0, rfl, rfl, f3, ix0, ?_⟩
          refine ⟨_, rfl, k (x % m) _ (Int.emod_nonneg _ (by omega)) (Int.emod_lt_of_pos _ m0) f1.c (Deck.ints (cs := x.fdiv m :: r) (c := c) (n := (n : Int) + 1) ne ?_ upd_same hl (by omega))⟩
          rw [upd_ne ne]
          exact f2
        · exact no (by simpa using hx) ⟨rfl, f1, f2, f3⟩
    · rintro σ' H2 ⟨rfl, f1, f2, f3⟩
      clear s1 e1 e2
      refine ⟨_, rfl, D, _, 1, _, rfl, rfl, SqL.of f2, i1, ?_⟩
      refine ⟨fun σ' H' => (∃ z : Int, σ' = [some (.ref D), some (.int m), none, some (.int z), none]) ∧ KpD D C H H' ∧ H' D = some (.lst [.ref C, .int c, .int (n + 1)]) ∧ ∃ cs' : List Int, cs'.length ≤ 63 ∧ H' C = some (.lst (cs'.map V.int)), ?_, ?_⟩
      · refine ⟨_, rfl, D, _, 0, _, rfl, rfl, SqL.of f2, i0, Nat.zero_le _, fun p hp => ?_⟩
        have s2 := same_new (o := .lst []) hp
        refine ⟨_, _, .lst (SqL.of (s2 _ _ f3)) (dp_ints cs), .lst (SqL.of upd_same) .nil, PySem.W.ke_shaped_ints cs, rfl, _, rfl, ?_⟩
        have fin : KpD D C H (upd H2 p (.lst [])) ∧ upd H2 p (.lst []) D = some (.lst [.ref C, .int c, .int (n + 1)]) ∧ upd H2 p (.lst []) C = some (.lst (cs.map V.int)) := ⟨f1.new hp, s2 _ _ f2, s2 _ _ f3⟩
        generalize upd H2 p (.lst []) = H3 at fin
        obtain ⟨g1, g2, g3⟩ := fin
        rw [ne_nil_ints]
        cases cs with
        | nil => exact no rfl ⟨⟨c, rfl⟩, g1, g2, [], by decide, g3⟩
        | cons x r =>
          refine yes rfl ?_
          refine ⟨_, rfl, _, rfl, D, _, 0, _, rfl, rfl, SqL.of g2, i0, .inl ⟨rfl, _, SqL.of g3⟩, C, _, 0, 0, .int x, rfl, rfl, g3, by decide, by decide, seq0, rfl, _, _, rfl, rfl, ?_⟩
          refine ⟨⟨c + x, rfl⟩, g1.c, ?_, r, ?_, upd_same⟩
          · rw [upd_ne ne]
            exact g2
          · simp only [List.length_cons] at hl
            omega
      · rintro σ' H3 ⟨⟨z, rfl⟩, g1, g2, cs', hl', g3⟩
        refine ⟨_, rfl, _, _, rfl, rfl, by show (0 : Int) < 2147483587; decide, _, _, rfl, rfl, mulV (small2 (by decide) (by decide)) (by decide), ?_⟩
        refine ⟨_, rfl, D, _, 2, _, rfl, rfl, SqL.of g2, i2, 69621, _, rfl, rfl, .inl ⟨by decide, by decide⟩, _, _, rfl, rfl, _, _, rfl, rfl, _, _, rfl, rfl, by show (0 : Int) < 2147483647; decide, ?_⟩
        generalize (z % 2147483587 * 40692 + 69621 * ((n : Int) + 1) + 5) = t1
        refine ⟨_, rfl, _, rfl, _, _, rfl, rfl, mulV (small2 (by decide) (by decide)) (small2 (by decide) (by decide)), _, rfl, _, _, rfl, rfl, mulV (by decide) (small2 (by decide) (by decide)), _, _, rfl, rfl, ?_⟩
        refine ⟨_, rfl, D, _, 2, _, rfl, rfl, SqL.of g2, i2, _, _, rfl, rfl, _, _, rfl, rfl, by show (0 : Int) < 2147483629; decide, ?_⟩
        generalize (t1 % 2147483647 * (t1 % 2147483647) + 16807 * (t1 % 2147483647) + ((n : Int) + 1)) = t2
        refine ⟨_, rfl, _, rfl, D, _, 1, 1, rfl, rfl, g2, rfl, ?_⟩
        have b2 := Int.emod_nonneg t2 (b := 2147483629) (by decide)
        have b3 := Int.emod_lt_of_pos t2 (b := 2147483629) (by decide)
        refine ⟨_, rfl, _, rfl, _, _, rfl, rfl, _, _, rfl, rfl, mulV (small2 (by decide) (by decide)) (by omega), _, _, rfl, rfl, by show (0 : Int) < 2147483563; decide, _, _, rfl, rfl, wide_div (b := 64) (by show (0 : Int) < 128; decide) (by show (128 : Int).natAbs < 2 ^ 64; decide) (by decide) (by decide), _, rfl, _, _, rfl, rfl, m0, ?_⟩
        refine k _ _ (Int.emod_nonneg _ (by omega)) (Int.emod_lt_of_pos _ m0) g1.d (Deck.ints (cs := cs') (c := t2 % 2147483629) (n := (n : Int) + 1) ne upd_same ?_ hl' (by omega))
        rw [upd_ne (Ne.symm ne)]
        exact g3
end
end Ph
set_option linter.all false
set_option maxRecDepth 100000
set_option maxHeartbeats 40000000
set_option exponentiation.threshold 500
namespace Ph
open PySem PySem.Spec PyProof.Rows L2 LamX
open C8 (pss_cut)
section
variable {P : Program} {w : World} {K : PySem.W.Frag} {mg : Str → Option Value} {base : Heap} {CE CN CR : Addr}
abbrev s__law_pick : Stmt := top 80
theorem sc__law_pick : FnScope ["_law_deck_here", "_law_some"] ["_law_deck_here", "_law_some"] (defScope s__law_pick) := ⟨rfl, rfl, rfl, by decide +kernel, rfl, by decide +kernel, by decide +kernel⟩
def spPick (K : PySem.W.Frag) : Sp := fun vs H Q _ => ∃ (D C a : Addr) (xs : List V), vs = [.ref D, .ref a] ∧ a ≠ D ∧ a ≠ C ∧ H a = some (.lst xs) ∧ 0 < xs.length ∧ xs.length ≤ 20000 ∧ Deck D C H ∧
  ∀ (i : Nat) y H', xs[i]? = some y → KpD D C H H' → Deck D C H' → Q y H'
theorem ok__law_pick (B : Bl mg) (c__law_draw : Cal P w K mg base CX0 1 "_law_draw" ["_law_deck_here", "_law_many_here"] spDraw) (F : FnAt K mg "_law_pick" s__law_pick) : Cal P w K mg base CX0 2 "_law_pick" ["_law_deck_here", "_law_some"] (spPick K) := by
  refine Cal.of0 F sc__law_pick (fun _ _ _ _ _ _ us hl => match us, hl with | [_, _], _ => rfl) (fun vs H Q E h => ?_) (fun f cdv A outer s H vs Q E hr h => ?_)
  · obtain ⟨D, C, a, xs, rfl, _⟩ := h
    rfl
  · obtain ⟨D, C, a, xs, rfl, n1, n2, ha, l0, l1, dk, k⟩ := h
    refine ⟨_, (pss_one (ps_ret (pe_ix ix_list (pv 1) (pe_c c__law_draw (hr.mono (by omega)) (pa_cons (pv 0) (pa_cons (pe_callB call_len_seq (by rfl) B.len (by decide +kernel) (pa_cons (pv 1) pa_nil)) pa_nil))) (fun _ _ => rfl)))), ?_⟩
    refine ⟨_, rfl, _, rfl, _, rfl, a, xs, rfl, .inl (SqL.of ha), D, C, _, rfl, by omega, by omega, dk, fun i H1 i0 i1 kp dk1 => ?_⟩
    obtain ⟨j, rfl⟩ := Int.eq_ofNat_of_zero_le i0
    have lj : j < xs.length := by omega
    exact ⟨a, xs, _, xs[j], rfl, rfl, SqL.of (kp _ _ n1 n2 ha), atI_nat (by simp [lj]), k j _ H1 (by simp [lj]) kp dk1⟩
abbrev s__law_q : Stmt := top 81
theorem sc__law_q : FnScope ["_law_top", "_law_bottom", "_law_one", "_law_other", "_law_by"] ["_law_top", "_law_bottom"] (defScope s__law_q) := ⟨rfl, rfl, rfl, by decide +kernel, rfl, by decide +kernel, by decide +kernel⟩
def spQ : Sp := fun vs H Q _ => ∃ t b : Int, vs = [.int t, .int b] ∧ 0 < b ∧ b ≤ 1000000 ∧ ∀ v H', Same H H' → TwQ H' v (Rat.divInt t b) → Q v H'
theorem ok__law_q (B : Bl mg) (F : FnAt K mg "_law_q" s__law_q) : Cal P w K mg base CX0 1 "_law_q" ["_law_top", "_law_bottom"] spQ := by
  refine Cal.of0 F sc__law_q (fun _ _ _ _ _ _ us hl => match us, hl with | [_, _], _ => rfl) (fun vs H Q E h => ?_) (fun f cdv A outer s H vs Q E hr h => ?_)
  · obtain ⟨t, b, rfl, _⟩ := h
    rfl
  · obtain ⟨t, b, rfl, b0, b1, k⟩ := h
    refine ⟨_, (pss_cons (ps_par (i := 2) (j := 3) (by rfl) sc__law_q.nd rfl rfl (by decide) rfl rfl (pa_cons (pb_abs B (pa_cons (pv 0) pa_nil)) (pa_cons (pb_abs B (pa_cons (pv 1) pa_nil)) pa_nil)) (by rfl))
      (pss_cons (ps_while PassesOwn.never (pt_cmpR op_gt (pv 3) pe_int (by first | exact nomark _ | rfl)) (pss_one (ps_par (i := 2) (j := 3) (by rfl) sc__law_q.nd rfl rfl (by decide) rfl rfl (pa_cons (pv 3) (pa_cons (pe_op op_mod (pv 2) (pv 3)) pa_nil)) (by rfl))))
      (pss_cons (ps_set (i := 4) sc__law_q.nd rfl (by first | exact Or.inl rfl | exact Or.inr rfl) (pe_ifExp (pt_cmpR op_gt (pv 1) pe_int (by first | exact nomark _ | rfl)) (pv 2) (pe_op op_sub pe_int (pv 2))))
      (pss_one (ps_ret (pe_tup (pa_cons (pe_op op_fdivN (pv 0) (pv 4)) (pa_cons (pe_op op_fdivN (pv 1) (pv 4)) pa_nil)))))))), ?_⟩
    refine ⟨_, rfl, _, rfl, _, rfl, _, rfl, _, _, rfl, ?_⟩
    refine while_by (fun σ' H' => Same H H' ∧ ∃ m n : Nat, σ' = [some (.int t), some (.int b), some (.int (m : Int)), some (.int (n : Int)), none] ∧ Nat.gcd m n = Nat.gcd t.natAbs b.natAbs)
      (fun σ' _ => match σ' with | [_, _, _, some (.int n), _] => n.toNat | _ => 0) ⟨Same.refl H, t.natAbs, b.natAbs, ?_, rfl⟩ ?_ ?_
    · have e1 : (if t < 0 then -t else t) = (t.natAbs : Int) := by split <;> omega
      have e2 : (if b < 0 then -b else b) = (b.natAbs : Int) := by split <;> omega
      rw [e1, e2]
      rfl
    · rintro σ' H' ⟨s1, m, n, rfl, hg⟩
      refine ⟨_, rfl, _, _, rfl, rfl, _, rfl, ?_⟩
      by_cases hn : n = 0
      · subst hn
        refine no (by simp) ?_
        have em : m = Nat.gcd t.natAbs b.natAbs := by rw [← hg, Nat.gcd_zero_right]
        have m0 : 0 < m := by
          rw [em]
          exact Nat.gcd_pos_of_pos_right _ (by omega)
        have mb : m ≤ b.natAbs := by
          rw [em]
          exact Nat.gcd_le_right _ (by omega)
        refine ⟨_, rfl, _, _, rfl, rfl, _, rfl, ?_⟩
        refine yes (by simpa using b0) ?_
        refine ⟨_, rfl, ?_⟩
        have c1 : CDivN t (m : Int) := ⟨by omega, by omega⟩
        have c2 : CDivN b (m : Int) := ⟨by omega, by omega⟩
        refine ⟨_, rfl, _, rfl, _, _, rfl, rfl, c1, _, rfl, _, rfl, _, _, rfl, rfl, c2, by show 2 ≤ sizeLine; decide, fun p hp => ?_⟩
        refine k _ _ (s1.trans (same_new hp)) ⟨p, rfl, ?_⟩
        dsimp only
        rw [upd_same, num_of b0, den_of b0, ← em, Int.fdiv_eq_ediv_of_nonneg t (by omega), Int.fdiv_eq_ediv_of_nonneg b (by omega)]
      · refine yes (by simp; omega) ?_
        refine ⟨_, rfl, _, rfl, _, rfl, _, _, rfl, rfl, (by omega), _, _, rfl, ⟨s1, n, m % n, ?_, ?_⟩, ?_⟩
        · rfl
        · rw [← hg, Nat.gcd_comm n (m % n), ← Nat.gcd_rec, Nat.gcd_comm]
        · show ((m : Int) % (n : Int)).toNat < (n : Int).toNat
          have := Nat.mod_lt m (Nat.pos_of_ne_zero hn)
          omega
    · rintro σ' H' Q1 Q2 hq ⟨v, e, i, j, e1, e2, b, e3, e4⟩
      exact ⟨v, e, i, j, e1, e2, b, e3, hq _ _ e4⟩
abbrev s__law_number : Stmt := top 83
theorem sc__law_number : FnScope ["_law_deck_here", "_law_some"] ["_law_deck_here"] (defScope s__law_number) := ⟨rfl, rfl, rfl, by decide +kernel, rfl, by decide +kernel, by decide +kernel⟩
/-- a number of the law's hand -/
def NumB (q : Rat) : Prop := ∃ t b : Int, q = Rat.divInt t b ∧ t.natAbs ≤ 999 ∧ 0 < b ∧ b ≤ 12
def spNumber : Sp := fun vs H Q _ => ∃ (D C : Addr), vs = [.ref D] ∧ Deck D C H ∧ ∀ v q H', KpD D C H H' → Deck D C H' → TwQ H' v q → NumB q → Q v H'
theorem ok__law_number (c__law_draw : Cal P w K mg base CX0 1 "_law_draw" ["_law_deck_here", "_law_many_here"] spDraw) (c__law_pick : Cal P w K mg base CX0 2 "_law_pick" ["_law_deck_here", "_law_some"] (spPick K)) (c__law_q : Cal P w K mg base CX0 1 "_law_q" ["_law_top", "_law_bottom"] spQ) (F : FnAt K mg "_law_number" s__law_number) :
    Cal P w K mg base CX0 3 "_law_number" ["_law_deck_here"] spNumber := by
  refine Cal.of0 F sc__law_number (fun _ _ _ _ _ _ us hl => match us, hl with | [_], _ => rfl) (fun vs H Q E h => ?_) (fun f cdv A outer s H vs Q E hr h => ?_)
  · obtain ⟨D, C, rfl, _⟩ := h
    rfl
  · obtain ⟨D, C, rfl, dk, k⟩ := h
    refine ⟨_, (pss_cons (ps_set (i := 1) sc__law_number.nd rfl (by first | exact Or.inl rfl | exact Or.inr rfl) (pe_lst (pa_cons (pe_c c__law_draw (hr.mono (by omega)) (pa_cons (pv 0) (pa_cons pe_int pa_nil))) (pa_cons (pe_op op_add pe_int (pe_c c__law_draw (hr.mono (by omega)) (pa_cons (pv 0) (pa_cons pe_int pa_nil)))) (pa_cons (pe_c c__law_draw (hr.mono (by omega)) (pa_cons (pv 0) (pa_cons pe_int pa_nil))) (pa_cons (pe_op op_sub pe_int (pe_c c__law_draw (hr.mono (by omega)) (pa_cons (pv 0) (pa_cons pe_int pa_nil)))) pa_nil))))))
      (pss_one (ps_ret (pe_c c__law_q (hr.mono (by omega)) (pa_cons (pe_c c__law_pick (hr.mono (by omega)) (pa_cons (pv 0) (pa_cons (pv 1) pa_nil))) (pa_cons (pe_ix ix_list (pe_lst (pa_cons pe_int (pa_cons pe_int (pa_cons pe_int (pa_cons (pe_op op_add pe_int (pe_c c__law_draw (hr.mono (by omega)) (pa_cons (pv 0) (pa_cons pe_int pa_nil)))) pa_nil))))) (pe_c c__law_draw (hr.mono (by omega)) (pa_cons (pv 0) (pa_cons pe_int pa_nil))) (fun _ _ => rfl)) pa_nil)))))), ?_⟩
    refine ⟨_, rfl, D, C, 4, rfl, by decide, by decide, dk, fun k1 H1 a1 b1 kp1 dk1 => ?_⟩
    refine ⟨_, rfl, D, C, 3, rfl, by decide, by decide, dk1, fun k2 H2 a2 b2 kp2 dk2 => ⟨_, _, rfl, rfl, ?_⟩⟩
    refine ⟨_, rfl, D, C, 1000, rfl, by decide, by decide, dk2, fun k3 H3 a3 b3 kp3 dk3 => ?_⟩
    refine ⟨_, rfl, D, C, 30, rfl, by decide, by decide, dk3, fun k4 H4 a4 b4 kp4 dk4 => ⟨_, _, rfl, rfl, ?_⟩⟩
    have kp := ((kp1.trans kp2).trans kp3).trans kp4
    refine ⟨by show 4 ≤ sizeLine; decide, fun p hp => ?_⟩
    obtain ⟨cs, c, n, d1, d2, d3⟩ := id dk4.ex
    have s5 := same_new (o := .lst [.int k1, .int (9 + k2), .int k3, .int (0 - k4)]) hp
    refine ⟨_, rfl, _, rfl, D, C, p, _, rfl, Ne.symm (ne_of_none d1 hp), Ne.symm (ne_of_none d2 hp), upd_same, by show 0 < 4; decide, by show 4 ≤ 20000; decide, dk4.same s5, fun i y H5 hy kp5 dk5 => ?_⟩
    obtain ⟨t, rfl, ht⟩ : ∃ t : Int, y = .int t ∧ t.natAbs ≤ 999 := by
      match i, hy with
      | 0, e => exact ⟨k1, (Option.some.inj e).symm, by omega⟩
      | 1, e => exact ⟨9 + k2, (Option.some.inj e).symm, by omega⟩
      | 2, e => exact ⟨k3, (Option.some.inj e).symm, by omega⟩
      | 3, e => exact ⟨0 - k4, (Option.some.inj e).symm, by omega⟩
    refine ⟨_, rfl, D, C, 12, rfl, by decide, by decide, dk5, fun k6 H6 a6 b6 kp6 dk6 => ⟨_, _, rfl, rfl, ?_⟩⟩
    refine ⟨by show 4 ≤ sizeLine; decide, fun p2 hp2 => ?_⟩
    obtain ⟨cs', c', n', d1', d2', d3'⟩ := id dk6.ex
    have m1 := Ne.symm (ne_of_none d1' hp2)
    have m2 := Ne.symm (ne_of_none d2' hp2)
    have s7 := same_new (o := .lst [.int 1, .int 1, .int 2, .int (1 + k6)]) hp2
    refine ⟨_, rfl, D, C, 4, rfl, by decide, by decide, dk6.same s7, fun k7 H7 a7 b7 kp7 dk7 => ?_⟩
    obtain ⟨j, rfl⟩ := Int.eq_ofNat_of_zero_le a7
    have e7 := kp7 _ _ m1 m2 (upd_same (H := H6) (a := p2) (o := .lst [.int 1, .int 1, .int 2, .int (1 + k6)]))
    obtain ⟨b, hb, hb1, hb2⟩ : ∃ b : Int, ([V.int 1, .int 1, .int 2, .int (1 + k6)] : List V)[j]? = some (.int b) ∧ 0 < b ∧ b ≤ 12 := by
      match j, b7 with
      | 0, _ => exact ⟨1, rfl, by omega, by omega⟩
      | 1, _ => exact ⟨1, rfl, by omega, by omega⟩
      | 2, _ => exact ⟨2, rfl, by omega, by omega⟩
      | 3, _ => exact ⟨1 + k6, rfl, by omega, by omega⟩
    refine ⟨p2, _, _, .int b, rfl, rfl, SqL.of e7, atI_nat hb, t, b, rfl, hb1, by omega, fun v H8 s8 h8 => ?_⟩
    exact k v _ H8 (((((kp.trans (KpD.of s5)).trans kp5).trans kp6).trans ((KpD.of s7).trans kp7)).trans (KpD.of s8)) (dk7.same s8) h8 ⟨t, b, rfl, ht, hb1, hb2⟩
end
end Ph
set_option linter.all false
set_option maxRecDepth 100000
set_option maxHeartbeats 40000000
set_option exponentiation.threshold 500
namespace Ph
open PySem PySem.Spec PyProof.Rows L2 LamX
open C8 (pss_cut)
/-! ### texts of the names -/
abbrev tx (l : List Nat) : Str := ⟨l.toArray⟩
theorem tx_inj {a b : List Nat} (h : tx a = tx b) : a = b := congrArg (fun x : Str => x.cps.toList) h
theorem tx_cps {z : Str} : tx z.cps.toList = z := rfl
theorem tx_app (a b : List Nat) : tx a ++ tx b = tx (a ++ b) := by
  show Str.mk _ = Str.mk _
  simp
theorem tx_len (a : List Nat) : (tx a).length = a.length := by
  show a.toArray.size = _
  simp
theorem flat_one : ∀ ws : List Nat, TL.joinL [] (ws.map fun c => [c]) = ws
  | [] => rfl
  | [_] => rfl
  | c :: d :: r => congrArg (c :: ·) (flat_one (d :: r))
theorem join_one : ∀ ws : List Nat, Txt.join (tx []) (ws.map fun c => tx [c]) = tx ws := fun ws => by
  have h := SX.join_S [] (ws.map fun c => [c])
  rw [List.map_map] at h
  refine Eq.trans h (congrArg tx (flat_one ws))
theorem cut_to (xs : List V) (a : Nat) : cutV xs none (some (a : Int)) = xs.take a := by
  unfold cutV
  rw [HT.sIx_none, HT.sIx_nat, List.drop_zero, Nat.sub_zero]
  exact List.take_eq_take_min.symm
theorem cut_from (xs : List V) (a : Nat) : cutV xs (some (a : Int)) none = xs.drop a := by
  unfold cutV
  rw [HT.sIx_none, HT.sIx_nat]
  by_cases h : a ≤ xs.length
  · rw [Nat.min_eq_left h, List.take_of_length_le]
    simp
  · rw [Nat.min_eq_right (by omega), Nat.sub_self, List.take_zero, List.drop_eq_nil_of_le (by omega)]
theorem cutS_to (l : List Nat) (a : Nat) : cutS (tx l) none (some (a : Int)) = tx (l.take a) := by
  unfold cutS
  rw [HT.sIx_none, HT.sIx_nat, List.drop_zero, Nat.sub_zero, tx_len]
  exact congrArg tx List.take_eq_take_min.symm
theorem cutS_from (l : List Nat) (a : Nat) : cutS (tx l) (some (a : Int)) none = tx (l.drop a) := by
  unfold cutS
  rw [HT.sIx_none, HT.sIx_nat, tx_len]
  show tx ((l.drop _).take _) = _
  by_cases h : a ≤ l.length
  · rw [Nat.min_eq_left h, List.take_of_length_le]
    simp
  · rw [Nat.min_eq_right (by omega), Nat.sub_self, List.take_zero, List.drop_eq_nil_of_le (by omega)]
/-- a small letter -/
abbrev Let (c : Nat) : Prop := 97 ≤ c ∧ c < 123
def abc : Str := "abcdefghijklmnopqrstuvwxyz"
theorem abc_at : ∀ i : Nat, i < 26 → abc.cps.toList[i]? = some (97 + i) := by decide +kernel
theorem abc_len : abc.length = 26 := by decide +kernel
theorem abc_has : ∀ c : Nat, c < 26 → (Txt.index0 abc (tx [97 + c])).isSome = true := by decide +kernel
/-- unlike names, written in small letters -/
structure NmsOk (ns : List Str) (m : Nat) : Prop where
  len : ns.length = m
  nd : ns.Nodup
  lo : ∀ x ∈ ns, PyData.strOk x = true
theorem PyData.strOk_tx {l : List Nat} (h : ∀ c ∈ l, Let c) : PyData.strOk (tx l) = true := by
  unfold PyData.strOk
  rw [← Array.all_toList, List.all_eq_true]
  intro c hc
  have := h c hc
  simp
  omega
def words14 : List Str := ["line", "on", "at", "row", "free", "same", "move", "out", "a", "circle", "none", "text", "i", "p"]
theorem words_ok : ∀ a : Nat, a < 7 → ∀ m : Nat, m < 13 → ((((words14.drop a ++ words14.take a).take m).length = m ∧ ((words14.drop a ++ words14.take a).take m).Nodup) ∧ ((words14.drop a ++ words14.take a).take m).all PyData.strOk = true) := by decide +kernel
/-- the names of the second sort: one letter is another one -/
theorem names1_ok (l : List Nat) (at_ i m : Nat) (hl : ∀ c ∈ l, Let c) (hm : m ≤ 26) : NmsOk ((List.range m).map fun k => tx (l.take at_ ++ (97 + (i + k) % 26) :: l.drop (at_ + 1))) m := by
  refine ⟨by simp, ?_, ?_⟩
  · unfold List.Nodup
    rw [List.pairwise_map]
    refine List.Pairwise.imp_of_mem ?_ (List.pairwise_lt_range (n := m))
    intro a b ha hb lt e
    have h1 := List.append_cancel_left (tx_inj e)
    have h2 : 97 + (i + a) % 26 = 97 + (i + b) % 26 := (List.cons.inj h1).1
    rw [List.mem_range] at ha hb
    omega
  · intro x hx
    obtain ⟨k, _, rfl⟩ := List.mem_map.mp hx
    refine PyData.strOk_tx fun c hc => ?_
    rcases List.mem_append.mp hc with h | h
    · exact hl c (List.mem_of_mem_take h)
    · rcases List.mem_cons.mp h with h | h
      · subst h
        exact ⟨by omega, by omega⟩
      · exact hl c (List.mem_of_mem_drop h)
theorem names2_ok (l : List Nat) (i m : Nat) (hl : ∀ c ∈ l, Let c) (hm : m ≤ 26) : NmsOk ((List.range m).map fun k => tx ((97 + (i + k) % 26) :: l.take (k % 8))) m := by
  refine ⟨by simp, ?_, ?_⟩
  · unfold List.Nodup
    rw [List.pairwise_map]
    refine List.Pairwise.imp_of_mem ?_ (List.pairwise_lt_range (n := m))
    intro a b ha hb lt e
    have h2 : 97 + (i + a) % 26 = 97 + (i + b) % 26 := (List.cons.inj (tx_inj e)).1
    rw [List.mem_range] at ha hb
    omega
  · intro x hx
    obtain ⟨k, _, rfl⟩ := List.mem_map.mp hx
    refine PyData.strOk_tx fun c hc => ?_
    rcases List.mem_cons.mp hc with h | h
    · subst h
      exact ⟨by omega, by omega⟩
    · exact hl c (List.mem_of_mem_take h)
end Ph
set_option linter.all false
set_option maxRecDepth 100000
set_option maxHeartbeats 40000000
set_option exponentiation.threshold 500
namespace Ph
open PySem PySem.Spec PyProof.Rows L2 LamX
open C8 (pss_cut)
theorem Deck.neD {D C : Addr} {H : Hp} {p : Addr} (d : Deck D C H) (h : H p = none) : p ≠ D ∧ p ≠ C := by
  obtain ⟨cs, c, n, h1, h2, _⟩ := d.ex
  exact ⟨Ne.symm (ne_of_none h1 h), Ne.symm (ne_of_none h2 h)⟩
section
variable {P : Program} {w : World} {K : PySem.W.Frag} {mg : Str → Option Value} {base : Heap} {CE CN CR : Addr}
theorem atI_str {l : List Nat} {i : Nat} {c : Nat} (h : l[i]? = some c) : atI (tx l).cps.toList ((i : Nat) : Int) = some c := by
  have lt := (List.getElem?_eq_some_iff.mp h).1
  show atI l (i : Int) = some c
  unfold atI ixN
  rw [if_pos (by omega), if_pos (by omega)]
  exact h
theorem abc_ix {k : Int} (h0 : 0 ≤ k) (h1 : k < 26) : atI abc.cps.toList k = some (97 + k.toNat) := by
  obtain ⟨i, rfl⟩ := Int.eq_ofNat_of_zero_le h0
  exact atI_str (l := abc.cps.toList) (abc_at i (by omega))
abbrev oAdd : R2 := rI0 fun i j => .int (i + j)
abbrev oMod : R2 := rI (fun _ j => 0 < j) fun i j => .int (i % j)
abbrev oIdx : V → List V → Hp → VK → Prop := fun x xs H Q => ∃ a b i rest, x = .str a ∧ xs = [.str b] ∧ Builtin.Str.occurrences a b 0 a.length 1 = i :: rest ∧ Q (.int (i : Nat)) H
abbrev s__law_names : Stmt := top 82
theorem sc__law_names : FnScope ["_law_deck_here", "_law_many_here", "_law_letters", "_law_sort", "_law_word", "_law_k", "_law_at", "_law_words", "_law_letters_here", "_law_letter"] ["_law_deck_here", "_law_many_here"] (defScope s__law_names) := ⟨rfl, rfl, rfl, by decide +kernel, rfl, by decide +kernel, by decide +kernel⟩
def spNames : Sp := fun vs H Q _ => ∃ (D C : Addr) (m : Nat), vs = [.ref D, .int m] ∧ 6 ≤ m ∧ m ≤ 12 ∧ Deck D C H ∧ ∀ a ns H', KpD D C H H' → Deck D C H' → a ≠ D → a ≠ C → H' a = some (.lst (ns.map V.str)) → NmsOk ns m → Q (.ref a) H'
theorem ok__law_names (B : Bl mg) (c__law_draw : Cal P w K mg base CX0 1 "_law_draw" ["_law_deck_here", "_law_many_here"] spDraw) (F : FnAt K mg "_law_names" s__law_names) :
    Cal P w K mg base CX0 2 "_law_names" ["_law_deck_here", "_law_many_here"] spNames := by
  refine Cal.of0 F sc__law_names (fun _ _ _ _ _ _ us hl => match us, hl with | [_, _], _ => rfl) (fun vs H Q E h => ?_) (fun f cdv A outer s H vs Q E hr h => ?_)
  · obtain ⟨D, C, m, rfl, _⟩ := h
    rfl
  · obtain ⟨D, C, m, rfl, m0, m1, dk, k⟩ := h
    refine ⟨_, (pss_cons (ps_set (i := 2) sc__law_names.nd rfl (by first | exact Or.inl rfl | exact Or.inr rfl) pe_str)
      (pss_cons (ps_set (i := 3) sc__law_names.nd rfl (by first | exact Or.inl rfl | exact Or.inr rfl) (pe_c c__law_draw (hr.mono (by omega)) (pa_cons (pv 0) (pa_cons pe_int pa_nil))))
      (pss_cons (ps_set (i := 4) sc__law_names.nd rfl (by first | exact Or.inl rfl | exact Or.inr rfl) (pe_bm PySem.F.plainAttrs_str PySem.F.slot_str_join PySem.F.type_str_join mt_join pe_str (pa_cons (pe_lc (own := [("_law_k", 5)]) (g := gName 5) (te := tOp rIxS (tVar 2) (tCall spDraw [] E0 (tCons (tVar 0) (tCons (tC (.int 26)) tNil)))) (by rfl) sc__law_names.nd (pi_range1 rfl B.range (pa_cons (pe_op op_add pe_int (pe_c c__law_draw (hr.mono (by omega)) (pa_cons (pv 0) (pa_cons pe_int pa_nil)))) pa_nil)) (blkOk_by (own := [("_law_k", 5)]) (N := ["_law_deck_here", "_law_many_here", "_law_letters", "_law_sort", "_law_word", "_law_k", "_law_at", "_law_words", "_law_letters_here", "_law_letter"]) (sc := defScope s__law_names) (by decide +kernel)) (fun _ _ _ _ _ => (pg_name (i := 5) sc__law_names.nd rfl (by first | exact Or.inl rfl | exact Or.inr rfl))) (fun _ _ _ _ _ => pts_nil) (fun _ _ _ _ _ => (pe_ix ix_str (pv 2) (pe_c c__law_draw (hr.mono (by omega)) (pa_cons (pv 0) (pa_cons pe_int pa_nil))) (fun _ _ => rfl)))) pa_nil)))
      (pss_cons (ps_set (i := 6) sc__law_names.nd rfl (by first | exact Or.inl rfl | exact Or.inr rfl) (pe_c c__law_draw (hr.mono (by omega)) (pa_cons (pv 0) (pa_cons (pe_callB call_len_str (by rfl) B.len (by decide +kernel) (pa_cons (pv 4) pa_nil)) pa_nil))))
      (pss_cons (ps_if (pt_cmpR op_eq (pv 3) pe_int (by first | exact nomark _ | rfl)) (pss_cons (ps_set (i := 7) sc__law_names.nd rfl (by first | exact Or.inl rfl | exact Or.inr rfl) (pe_lst (pa_cons pe_str (pa_cons pe_str (pa_cons pe_str (pa_cons pe_str (pa_cons pe_str (pa_cons pe_str (pa_cons pe_str (pa_cons pe_str (pa_cons pe_str (pa_cons pe_str (pa_cons pe_str (pa_cons pe_str (pa_cons pe_str (pa_cons pe_str pa_nil))))))))))))))))
      (pss_one (ps_ret (pe_slice sl_list (pe_op op_cat (pe_slice sl_list (pv 7) (po_some (pv 6)) po_none) (pe_slice sl_list (pv 7) po_none (po_some (pv 6)))) po_none (po_some (pv 1)))))) pss_nil)
      (pss_cons (ps_setLc (i := 8) (own := [("_law_k", 5)]) (g := gName 5) (te := tOp rIxS (tVar 2) (tOp oMod (tOp oAdd (tBM K "str" oIdx (tVar 2) (tCons (tOp rIxS (tVar 4) (tVar 6)) tNil)) (tVar 5)) (tC (.int 26)))) (by rfl) sc__law_names.nd rfl rfl (sw_true rfl rfl rfl (by decide +kernel)) (pi_range1 rfl B.range (pa_cons (pv 1) pa_nil)) (blkOk_by (own := [("_law_k", 5)]) (N := ["_law_deck_here", "_law_many_here", "_law_letters", "_law_sort", "_law_word", "_law_k", "_law_at", "_law_words", "_law_letters_here", "_law_letter"]) (sc := defScope s__law_names) (by decide +kernel)) (fun _ _ _ _ _ => (pg_name (i := 5) sc__law_names.nd rfl (by first | exact Or.inl rfl | exact Or.inr rfl))) (fun _ _ _ _ _ => pts_nil) (fun _ _ _ _ _ => (pe_ix ix_str (pv 2) (pe_op op_mod (pe_op op_add (pe_bm PySem.F.plainAttrs_str PySem.F.slot_str_index PySem.F.type_str_index mt_sindex (pv 2) (pa_cons (pe_ix ix_str (pv 4) (pv 6) (fun _ _ => rfl)) pa_nil)) (pv 5)) pe_int) (fun _ _ => rfl))))
      (pss_cons (ps_if (pt_cmpR op_eq (pv 3) pe_int (by first | exact nomark _ | rfl)) (pss_one (ps_ret (pe_lc (own := [("_law_letter", 9)]) (g := gName 9)  (by rfl) sc__law_names.nd (pi_list (pv 8)) (blkOk_by (own := [("_law_letter", 9)]) (N := ["_law_deck_here", "_law_many_here", "_law_letters", "_law_sort", "_law_word", "_law_k", "_law_at", "_law_words", "_law_letters_here", "_law_letter"]) (sc := defScope s__law_names) (by decide +kernel)) (fun _ _ _ _ _ => (pg_name (i := 9) sc__law_names.nd rfl (by first | exact Or.inl rfl | exact Or.inr rfl))) (fun _ _ _ _ _ => pts_nil) (fun _ _ _ _ _ => (pe_op op_add_str (pe_op op_add_str (pe_slice sl_str (pv 4) po_none (po_some (pv 6))) (pv 9)) (pe_slice sl_str (pv 4) (po_some (pe_op op_add (pv 6) pe_int)) po_none)))))) pss_nil)
      (pss_one (ps_ret (pe_lc (own := [("_law_k", 5), ("_law_letter", 9)]) (g := gTup K 2 (gCons (gName 5) (gCons (gName 9) gNil)))  (by rfl) sc__law_names.nd (pi_enum (by rfl) B.enumerate (pa_cons (pv 8) pa_nil)) (blkOk_by (own := [("_law_k", 5), ("_law_letter", 9)]) (N := ["_law_deck_here", "_law_many_here", "_law_letters", "_law_sort", "_law_word", "_law_k", "_law_at", "_law_words", "_law_letters_here", "_law_letter"]) (sc := defScope s__law_names) (by decide +kernel)) (fun _ _ _ _ _ => (pg_tup rfl (pgs_cons (pg_name (i := 5) sc__law_names.nd rfl (by first | exact Or.inl rfl | exact Or.inr rfl)) (pgs_cons (pg_name (i := 9) sc__law_names.nd rfl (by first | exact Or.inl rfl | exact Or.inr rfl)) pgs_nil)))) (fun _ _ _ _ _ => pts_nil) (fun _ _ _ _ _ => (pe_op op_add_str (pv 9) (pe_slice sl_str (pv 4) po_none (po_some (pe_op op_mod (pv 5) pe_int))))))))))))))), ?_⟩
    refine ⟨_, rfl, D, C, 3, rfl, by decide, by decide, dk, fun k1 H1 a1 b1 kp1 dk1 => ?_⟩
    refine ⟨rfl, ⟨_, rfl, D, C, 7, rfl, by decide, by decide, dk1, fun k2 H2 a2 b2 kp2 dk2 => ⟨_, _, rfl, rfl, _, rfl, by show -(2 ^ 62) ≤ 1 + k2; omega, by show 1 + k2 < 2 ^ 62; omega, fun L hL => ?_⟩⟩⟩
    have kp12 := kp1.trans kp2
    obtain ⟨nL1, nL2⟩ := dk2.neD hL
    refine lc_it (walk_range (lo := 0) (n := (1 + k2).toNat)) (fun j Hx => KpD D C H2 Hx ∧ Deck D C Hx ∧ ∃ ws : List Nat, ws.length = j ∧ (∀ c ∈ ws, Let c) ∧ Hx L = some (.lst (ws.map fun c => V.str (tx [c])))) ⟨KpD.refl.new hL, dk2.same (same_new hL), [], rfl, (fun _ h => by cases h), upd_same⟩ (fun _ _ _ _ => True.intro) (fun j z Hx Hy lj h y => ?_) fun Hx h => ?_
    · obtain ⟨rfl, rfl⟩ := y
      obtain ⟨q1, q2, ws, wl, wz, q3⟩ := h
      refine ⟨rfl, ?_⟩
      refine ⟨_, rfl, _, rfl, D, C, 26, rfl, by decide, by decide, q2, fun k3 H3 a3 b3 kp3 dk3 => ?_⟩
      have e3 := kp3 _ _ nL1 nL2 q3
      refine ⟨abc, k3, _, rfl, rfl, by rw [abc_len, sizeLine_eq]; decide, abc_ix a3 b3, _, e3, by rw [List.length_map, sizeLine_eq]; omega, fun b u n1 n2 e => ?_, ?_, ws ++ [97 + k3.toNat], by simp [wl], fun c hc => ?_, ?_⟩
      · by_cases z : b = L
        · subst z
          rw [hL] at e
          cases e
        · rw [upd_ne z]
          exact kp3 _ _ n1 n2 (q1 _ _ n1 n2 e)
      · obtain ⟨cs, c, n, d1, d2, d3⟩ := dk3.ex
        exact ⟨dk3.ne, cs, c, n, by rw [upd_ne (Ne.symm nL1)]; exact d1, by rw [upd_ne (Ne.symm nL2)]; exact d2, d3⟩
      · rcases List.mem_append.mp hc with h | h
        · exact wz c h
        · rw [List.mem_singleton] at h
          exact ⟨by omega, by omega⟩
      · rw [upd_same, List.map_append]
        rfl
    obtain ⟨q1, q2, ws, wl, wz, q3⟩ := h
    have w7 : ws.length ≤ 7 := by omega
    have w0 : 0 < ws.length := by omega
    have wsum : ((ws.map fun c => tx [c]).map fun x => x.length).sum = ws.length := by
      clear q3 wz wl w7 w0
      induction ws with
      | nil => rfl
      | cons c r ih =>
        simp only [List.map_cons, List.sum_cons, List.length_cons]
        rw [ih, tx_len]
        simp only [List.length_cons, List.length_nil]
        omega
    refine ⟨tx [], L, ws.map (fun c => tx [c]), rfl, rfl, .inl (SqL.of (by rw [List.map_map]; exact q3)), ?_, ?_⟩
    · rw [wsum, tx_len]
      simp only [List.length_nil, Nat.mul_zero, Nat.add_zero]
      omega
    rw [join_one]
    refine gN ?_
    dsimp only
    have kq := kp12.trans q1
    clear wsum q3
    have lw : (tx ws).length = ws.length := tx_len ws
    refine ⟨_, rfl, _, rfl, tx ws, rfl, by rw [lw, sizeLine_eq]; omega, D, C, _, rfl, by omega, by omega, q2, fun k4 H4 a4 b4 kp4 dk4 => ?_⟩
    rw [lw] at b4
    have kp := kq.trans kp4
    obtain ⟨i4, rfl⟩ := Int.eq_ofNat_of_zero_le a4
    have l4 : i4 < ws.length := by omega
    refine ⟨_, rfl, rfl, _, rfl, ?_⟩
    by_cases k0 : k1 = 0
    · subst k0
      refine yes rfl ?_
      refine ⟨by show 14 ≤ sizeLine; decide, fun p hp => ?_⟩
      have s1 := same_new (o := .lst (words14.map V.str)) hp
      refine ⟨_, rfl, _, rfl, _, rfl, p, words14.map V.str, rfl, SqL.of upd_same, fun p2 hp2 => ?_⟩
      refine ⟨_, rfl, _, rfl, _, rfl, p, words14.map V.str, rfl, SqL.of (same_new hp2 _ _ upd_same), fun p3 hp3 => ?_⟩
      rw [cut_from, cut_to, ← List.map_drop, ← List.map_take] at *
      refine ⟨p2, p3, _, _, rfl, rfl, same_new hp3 _ _ upd_same, upd_same, ?_, fun p4 hp4 => ?_⟩
      · rw [List.length_map, List.length_map, List.length_drop, List.length_take, sizeLine_eq]
        have : words14.length = 14 := rfl
        omega
      refine ⟨_, rfl, _, rfl, p4, _, rfl, SqL.of upd_same, fun p5 hp5 => ?_⟩
      rw [cut_to, ← List.map_append, ← List.map_take] at *
      have sA := (((s1.trans (same_new (o := .lst ((words14.drop i4).map V.str)) hp2)).trans (same_new (o := .lst ((words14.take i4).map V.str)) hp3)).trans (same_new (o := .lst ((words14.drop i4 ++ words14.take i4).map V.str)) hp4)).trans (same_new (o := .lst (((words14.drop i4 ++ words14.take i4).take m).map V.str)) hp5)
      have dkA := dk4.same sA
      obtain ⟨⟨h1, h2⟩, h3⟩ := words_ok i4 (by omega) m (by omega)
      exact k p5 _ _ (kp.trans (KpD.of sA)) dkA (dk4.neD ((((s1.trans (same_new hp2)).trans (same_new hp3)).trans (same_new hp4)).free hp5)).1 (dk4.neD ((((s1.trans (same_new hp2)).trans (same_new hp3)).trans (same_new hp4)).free hp5)).2 upd_same ⟨h1, h2, List.all_eq_true.mp h3⟩
    · refine no (by simpa using k0) ?_
      have lc := wz ws[i4] (List.getElem_mem l4)
      obtain ⟨i0, rest, hocc⟩ : ∃ i0 rest, Builtin.Str.occurrences abc (tx [ws[i4]]) 0 abc.length 1 = i0 :: rest := by
        have h := abc_has (ws[i4] - 97) (by omega)
        rw [show 97 + (ws[i4] - 97) = ws[i4] by omega] at h
        unfold Txt.index0 at h
        cases e : Builtin.Str.occurrences abc (tx [ws[i4]]) 0 abc.length 1 with
        | nil =>
          rw [e] at h
          cases h
        | cons i0 rest => exact ⟨i0, rest, rfl⟩
      refine ⟨_, rfl, (m : Int), rfl, by omega, by omega, fun M hM => ?_⟩
      refine lc_it (walk_range (lo := 0) (n := m)) (fun j Hx => Same H4 Hx ∧ Hx M = some (.lst ((List.range j).map fun k => V.str (tx [97 + (i0 + k) % 26])))) ⟨same_new hM, upd_same⟩ (fun _ _ _ _ => True.intro) (fun j z Hx Hy lj h y => ?_) fun Hx h => ?_
      · obtain ⟨rfl, rfl⟩ := y
        obtain ⟨q1, q3⟩ := h
        refine ⟨rfl, ?_⟩
        refine ⟨_, rfl, _, rfl, rfl, ⟨_, rfl, _, rfl, tx ws, (i4 : Int), ws[i4], rfl, rfl, by rw [lw, sizeLine_eq]; omega, atI_str (l := ws) (by simp [l4]), abc, tx [ws[i4]], i0, rest, rfl, rfl, hocc, ?_⟩⟩
        refine ⟨_, rfl, _, _, rfl, rfl, _, _, rfl, rfl, by show (0 : Int) < 26; decide, ?_⟩
        refine ⟨abc, _, _, rfl, rfl, by rw [abc_len, sizeLine_eq]; decide, abc_ix (k := ((i0 : Int) + (0 + (j : Nat))) % 26) (by omega) (by omega), _, q3, by rw [List.length_map, List.length_range, sizeLine_eq]; omega, same_put q1 hM, ?_⟩
        rw [upd_same, List.range_succ, List.map_append]
        have e1 : (((i0 : Int) + (0 + (j : Nat))) % 26).toNat = (i0 + j) % 26 := by omega
        rw [e1]
        rfl
      obtain ⟨q1b, q3⟩ := h
      refine gN ?_
      dsimp only
      refine sq ?_
      have kpx := kp.trans (KpD.of q1b)
      have dkx := dk4.same q1b
      refine ⟨_, rfl, rfl, _, rfl, ?_⟩
      by_cases k11 : k1 = 1
      · subst k11
        refine yes rfl ?_
        refine ⟨_, rfl, M, rfl, ⟨_, SqL.of q3⟩, fun N hN => ?_⟩
        refine lc_it (walk_list (K := K)) (fun j Hy => Same Hx Hy ∧ Hy N = some (.lst (((List.range j).map fun k => tx (ws.take i4 ++ (97 + (i0 + k) % 26) :: ws.drop (i4 + 1))).map V.str))) ⟨same_new hN, upd_same⟩ (fun _ _ _ h => SqL.of (h.1 _ _ q3)) (fun j z Hy Hz lj h y => ?_) fun Hy h => ?_
        · obtain ⟨rfl, hz⟩ := y
          obtain ⟨r1, r3⟩ := h
          have lj2 : j < m := by simpa using lj
          obtain rfl : z = .str (tx [97 + (i0 + j) % 26]) := by
            rw [List.getElem?_map, List.getElem?_range lj2] at hz
            exact (Option.some.inj hz).symm
          refine ⟨rfl, ?_⟩
          refine ⟨_, rfl, _, rfl, _, rfl, tx ws, rfl, by rw [lw, sizeLine_eq]; omega, _, rfl, ?_⟩
          rw [cutS_to]
          refine ⟨_, _, rfl, rfl, by rw [tx_len, tx_len, List.length_take, List.length_singleton, sizeLine_eq]; omega, ?_⟩
          rw [tx_app]
          refine ⟨_, rfl, _, rfl, _, _, rfl, rfl, _, rfl, tx ws, rfl, by rw [lw, sizeLine_eq]; omega, ?_⟩
          rw [show ((i4 : Int) + 1) = ((i4 + 1 : Nat) : Int) by omega, cutS_from]
          refine ⟨_, _, rfl, rfl, by rw [tx_len, tx_len, List.length_append, List.length_take, List.length_singleton, List.length_drop, sizeLine_eq]; omega, ?_⟩
          rw [tx_app]
          refine ⟨_, r3, by rw [List.length_map, List.length_map, List.length_range, sizeLine_eq]; omega, same_put r1 hN, ?_⟩
          rw [upd_same, List.range_succ, List.map_append, List.map_append, List.append_assoc]
          rfl
        · obtain ⟨r1, r3⟩ := h
          rw [List.length_map, List.length_range] at r3
          obtain ⟨n1, n2⟩ := dkx.neD hN
          exact k N _ _ (kpx.trans (KpD.of r1)) (dkx.same r1) n1 n2 r3 (names1_ok ws i4 i0 m wz (by omega))
      · refine no (by simpa using k11) ?_
        refine ⟨_, rfl, M, _, rfl, SqL.of q3, fun N hN => ?_⟩
        refine lc_it (walk_enum (K := K)) (fun j Hy => Same Hx Hy ∧ Hy N = some (.lst (((List.range j).map fun k => tx ((97 + (i0 + k) % 26) :: ws.take (k % 8))).map V.str))) ⟨same_new hN, upd_same⟩ (fun _ _ _ h => SqL.of (h.1 _ _ q3)) (fun j z Hy Hz lj h y => ?_) fun Hy h => ?_
        · obtain ⟨r1, r3⟩ := h
          have lj2 : j < m := by simpa using lj
          obtain ⟨T, x, z2, rfl, hT, rfl, e1, e2⟩ := y
          cases e1
          obtain rfl : z2 = .str (tx [97 + (i0 + j) % 26]) := by
            dsimp only at e2
            rw [List.getElem?_map, List.getElem?_range lj2] at e2
            exact (Option.some.inj e2).symm
          refine ⟨T, _, rfl, SqT.of upd_same, rfl, _, _, rfl, _, _, rfl, rfl, rfl, ?_⟩
          have s5 := same_new (o := .tup [.int (j : Nat), .str (tx [97 + (i0 + j) % 26])]) hT
          refine ⟨_, rfl, _, rfl, _, rfl, _, _, rfl, rfl, by show (0 : Int) < 8; decide, _, rfl, tx ws, rfl, by rw [lw, sizeLine_eq]; omega, ?_⟩
          rw [show ((j : Int) % 8) = ((j % 8 : Nat) : Int) by omega, cutS_to]
          refine ⟨_, _, rfl, rfl, by rw [tx_len, tx_len, List.length_take, List.length_singleton, sizeLine_eq]; omega, ?_⟩
          rw [tx_app]
          refine ⟨_, s5 _ _ r3, by rw [List.length_map, List.length_map, List.length_range, sizeLine_eq]; omega, same_put (r1.trans s5) hN, ?_⟩
          rw [upd_same, List.range_succ, List.map_append, List.map_append]
          rfl
        · obtain ⟨r1, r3⟩ := h
          rw [List.length_map, List.length_range] at r3
          obtain ⟨n1, n2⟩ := dkx.neD hN
          exact k N _ _ (kpx.trans (KpD.of r1)) (dkx.same r1) n1 n2 r3 (names2_ok ws i0 m wz (by omega))
end
end Ph
set_option linter.all false
set_option maxRecDepth 100000
set_option maxHeartbeats 40000000
set_option exponentiation.threshold 500
namespace Ph
open PySem PySem.Spec PyProof.Rows L2 LamX
open C8 (pss_cut)
/-! ### a walk over what is a list or a tuple -/
theorem pi_or {X : Cx} {tg e : Expr} {w1 w2 : TI} (h1 : PI X tg e w1) (h2 : PI X tg e w2) : PI X tg e (fun σ H R => w1 σ H R ∨ w2 σ H R) :=
  ⟨fun pins s σ H R I h => h.elim (fun z => h1.run pins s σ H R I z) fun z => h2.run pins s σ H R I z⟩
/-! ### sorts of steps -/
inductive Kd where
  | pt | ln | ci
  deriving DecidableEq
def Bn.kd : Bn → Kd
  | .line => .ln | .along => .ln | .upright => .ln | .circle => .ci | _ => .pt
def Stp.kd : Stp → Kd
  | .two b _ _ => b.kd
  | _ => .pt
def Kd.word : Kd → Str
  | .pt => "P" | .ln => "L" | .ci => "C"
/-- the names of a sort -/
def knownN (pl : Pl) (k : Kd) : List Str := (pl.filter fun s => decide (s.2.kd = k)).map (·.1)
theorem mem_known {pl : Pl} {k : Kd} {x : Str} : x ∈ knownN pl k ↔ ∃ s, (x, s) ∈ pl ∧ s.kd = k := by
  unfold knownN
  simp only [List.mem_map, List.mem_filter, decide_eq_true_eq]
  constructor
  · rintro ⟨⟨y, s⟩, ⟨h1, h2⟩, rfl⟩
    exact ⟨s, h1, h2⟩
  · rintro ⟨s, h1, h2⟩
    exact ⟨(x, s), ⟨h1, h2⟩, rfl⟩
abbrev lnWords : List V := [.str "line", .str "along", .str "upright"]
abbrev ciWords : List V := [.str "circle"]
theorem bn_ln : ∀ b : Bn, inV (.str b.word) lnWords = decide (b.kd = .ln) := by
  intro b
  cases b <;> decide +kernel
theorem bn_ci : ∀ b : Bn, inV (.str b.word) ciWords = decide (b.kd = .ci) := by
  intro b
  cases b <;> decide +kernel
theorem bn_lc : ∀ b : Bn, inV (.str b.word) (lnWords ++ ciWords) = !decide (b.kd = .pt) := by
  intro b
  cases b <;> decide +kernel
theorem other_words : ∀ z : Str, z = "free" ∨ z = "on" ∨ z = "round" ∨ z = "turn" ∨ z = "other" → inV (.str z) lnWords = false ∧ inV (.str z) ciWords = false ∧ inV (.str z) (lnWords ++ ciWords) = false := by
  rintro z (rfl | rfl | rfl | rfl | rfl) <;> decide +kernel
theorem st_words (s : Stp) : inV (.str s.word) lnWords = decide (s.kd = .ln) ∧ inV (.str s.word) ciWords = decide (s.kd = .ci) ∧ inV (.str s.word) (lnWords ++ ciWords) = !decide (s.kd = .pt) := by
  cases s with
  | two b x y => exact ⟨bn_ln b, bn_ci b, bn_lc b⟩
  | free => exact other_words _ (.inl rfl)
  | on l => exact other_words _ (.inr (.inl rfl))
  | round c => exact other_words _ (.inr (.inr (.inl rfl)))
  | turn p q k => exact other_words _ (.inr (.inr (.inr (.inl rfl))))
  | other l c p => exact other_words _ (.inr (.inr (.inr (.inr rfl))))
/-- a plan, as a list or as a tuple -/
def PlB (pl : Pl) : Ap := fun H v => ∃ a vs, v = .ref a ∧ (H a = some (.lst vs) ∨ H a = some (.tup vs)) ∧ Each StA pl H vs
theorem mo_plB {pl : Pl} : Mo (PlB pl) := fun _ _ _ s ⟨a, vs, e, h, k⟩ => ⟨a, vs, e, h.elim (fun z => .inl (s _ _ z)) (fun z => .inr (s _ _ z)), k.same (fun _ => mo_st) s⟩
theorem PlB.ofT {pl : Pl} {H : Hp} {v : V} (h : PlA pl H v) : PlB pl H v := let ⟨a, vs, e, h1, h2⟩ := h; ⟨a, vs, e, .inr h1, h2⟩
theorem flat_words : lnWords.all flatV = true ∧ ciWords.all flatV = true ∧ (lnWords ++ ciWords).all flatV = true := ⟨rfl, rfl, rfl⟩
theorem knownN_snoc {pl : Pl} {k : Kd} {i : Nat} {x : Str} {s : Stp} (h : pl[i]? = some (x, s)) : knownN (pl.take (i + 1)) k = if s.kd = k then knownN (pl.take i) k ++ [x] else knownN (pl.take i) k := by
  have lt := (List.getElem?_eq_some_iff.mp h).1
  have e := (List.getElem?_eq_some_iff.mp h).2
  unfold knownN
  rw [List.take_succ_eq_append_getElem lt, e, List.filter_append, List.map_append]
  by_cases z : s.kd = k
  · rw [if_pos z]
    simp [z]
  · rw [if_neg z]
    simp [z]
section
variable {P : Program} {w : World} {K : PySem.W.Frag} {mg : Str → Option Value} {base : Heap} {CE CN CR : Addr}
abbrev oIn (K : PySem.W.Frag) : R2 := L2.rIn K false
/-- a comprehension over a plan that picks names by a test of the step -/
theorem known_comp {g : TG} {tt : TT} {te : TE} {J : It} {pl : Pl} {H1 : Hp} {ts : List V} {k : Kd} {vs : List Nat} {σ : L2.St} {D : Addr} {Q : VK} (w : Walk J pl.length (fun H => Same H1 H) (fun i H v H' => H' = H ∧ ts[i]? = some v)) (he : Each StA pl H1 ts) (hl : pl.length ≤ 100) (hD : H1 D = none)
    (hg : ∀ (x : Str) (s : Stp) (i : Nat) (v : V) (H' : Hp), Same H1 H' → StA (x, s) H' v → pl[i]? = some (x, s) → ∃ σ2, (∀ Q : L2.St → Hp → Prop, Q σ2 H' → g v (wipe σ vs) H' Q) ∧ wipe σ2 vs = wipe σ vs ∧
      (∀ Q : Bool → Hp → Prop, (∀ H2, Same H' H2 → Q (decide (s.kd = k)) H2) → tt σ2 H' Q) ∧ ∀ (H2 : Hp) (Q : VK), Same H' H2 → (∀ H3, Same H2 H3 → Q (.str x) H3) → te σ2 H2 Q)
    (q : ∀ H', Same H1 H' → H' D = some (.lst ((knownN pl k).map V.str)) → Q (.ref D) H') :
    ∃ W : Nat → Nat → Hp → Prop, (∃ m, W 0 m (upd H1 D (.lst []))) ∧ ∀ i m H, W i m H →
      (J.stop i H ∧ Q (.ref D) H) ∨ (J.go i H ∧ ∃ Nx : Hp → Prop, (∀ H', Nx H' → ∃ m', m' < m ∧ W (i + 1) m' H') ∧ ∀ x H', J.yld i H x H' → g x (wipe σ vs) H' fun σ2 H2 => wipe σ2 vs = wipe σ vs ∧ tt σ2 H2 fun b H3 =>
        if b = true then te σ2 H3 fun y H4 => ∃ acc, H4 D = some (.lst acc) ∧ acc.length < sizeLine ∧ Nx (upd H4 D (.lst (acc ++ [y]))) else Nx H3) := by
  refine lc_it w (fun i H' => Same H1 H' ∧ H' D = some (.lst ((knownN (pl.take i) k).map V.str))) ⟨same_new hD, upd_same⟩ (fun i H' _ h => h.1) (fun i v Ha Hb lt h y => ?_) fun H' h => ?_
  · obtain ⟨rfl, hv⟩ := y
    obtain ⟨s1, hd⟩ := h
    obtain ⟨x, s, hp⟩ : ∃ x s, pl[i]? = some (x, s) := ⟨_, _, List.getElem?_eq_getElem lt⟩
    obtain ⟨u, g1, g2⟩ := he.2 i _ hp
    obtain rfl : u = v := Option.some.inj (g1.symm.trans hv)
    obtain ⟨σ2, h1, h2, h3, h4⟩ := hg x s i u Hb s1 (mo_st _ _ _ s1 g2) hp
    refine h1 _ ⟨h2, h3 _ fun H2 s2 => ?_⟩
    have le : (knownN (pl.take i) k).length ≤ 100 := by
      unfold knownN
      rw [List.length_map]
      have := List.length_filter_le (fun s => decide (s.2.kd = k)) (pl.take i)
      rw [List.length_take] at this
      omega
    rw [knownN_snoc hp]
    by_cases z : s.kd = k
    · refine yes (by simpa using z) ?_
      refine h4 H2 _ s2 fun H3 s3 => ⟨_, s3 _ _ (s2 _ _ hd), by rw [List.length_map, sizeLine_eq]; omega, same_put ((s1.trans s2).trans s3) hD, ?_⟩
      rw [upd_same, if_pos z, List.map_append]
      rfl
    · refine no (by simpa using z) ?_
      rw [if_neg z]
      exact ⟨s1.trans s2, s2 _ _ hd⟩
  · rw [List.take_length] at h
    exact q H' h.1 h.2
end
end Ph
set_option linter.all false
set_option maxRecDepth 100000
set_option maxHeartbeats 40000000
set_option exponentiation.threshold 500
namespace Ph
open PySem PySem.Spec PyProof.Rows L2 LamX
open C8 (pss_cut)
section
variable {P : Program} {w : World} {K : PySem.W.Frag} {mg : Str → Option Value} {base : Heap} {CE CN CR : Addr}
theorem st_at0 {H : Hp} {x : Str} {s : Stp} {v : V} (h : StA (x, s) H v) : ∃ a, v = .ref a ∧ H a = some (.tup (stV (x, s))) := h
theorem eg_word {σ : L2.St} {H : Hp} {i : Nat} {v : V} {x : Str} {s : Stp} (h : σ[i]? = some (some v)) (hv : StA (x, s) H v) : EG (fun _ u => u = V.str s.word) (tOp (rIxT K) (tVar i) (tC (.int 0))) σ H := by
  obtain ⟨a, rfl, ha⟩ := hv
  exact eg_ixv (k := 0) h ha rfl mo_str rfl
theorem eg_own {σ : L2.St} {H : Hp} {i : Nat} {v : V} {x : Str} {s : Stp} (h : σ[i]? = some (some v)) (hv : StA (x, s) H v) : EG (fun _ u => u = V.str x) (tOp (rIxT K) (tVar i) (tC (.int 1))) σ H := by
  obtain ⟨a, rfl, ha⟩ := hv
  exact eg_ixv (k := 1) h ha rfl mo_str rfl
theorem walk_listS {K : PySem.W.Frag} {a : Addr} {xs : List V} {H1 : Hp} {n : Nat} (h : H1 a = some (.lst xs)) (hn : xs.length = n) : Walk (Itl K a) n (fun H => Same H1 H) (fun i H v H' => H' = H ∧ xs[i]? = some v) := by
  subst hn
  have w := walk_list (K := K) (a := a) (xs := xs)
  exact ⟨fun i H lt s => w.goes i H lt (SqL.of (s _ _ h)), fun H s => w.stops H (SqL.of (s _ _ h)), fun i H v H' lt s y => w.yields i H v H' lt (SqL.of (s _ _ h)) y⟩
theorem walk_tupS {K : PySem.W.Frag} {a : Addr} {xs : List V} {H1 : Hp} {n : Nat} (h : H1 a = some (.tup xs)) (hn : xs.length = n) : Walk (Itt K a) n (fun H => Same H1 H) (fun i H v H' => H' = H ∧ xs[i]? = some v) := by
  subst hn
  have w := walk_tup (K := K) (a := a) (xs := xs)
  exact ⟨fun i H lt s => w.goes i H lt (SqT.of (s _ _ h)), fun H s => w.stops H (SqT.of (s _ _ h)), fun i H v H' lt s y => w.yields i H v H' lt (SqT.of (s _ _ h)) y⟩
abbrev s__law_known : Stmt := top 85
theorem sc__law_known : FnScope ["_law_plan_here", "_law_sort", "_law_words", "_law_step"] ["_law_plan_here", "_law_sort"] (defScope s__law_known) := ⟨rfl, rfl, rfl, by decide +kernel, rfl, by decide +kernel, by decide +kernel⟩
abbrev iPl (K : PySem.W.Frag) (i : Nat) : TI := fun σ H R => iList K (tVar i) σ H R ∨ iTup K (tVar i) σ H R
/-- the walk over a plan that stands in a slot -/
theorem ipl {K : PySem.W.Frag} {pl : Pl} {i : Nat} {σ : L2.St} {H : Hp} {v : V} {R : It → Hp → Prop} (hp : PlB pl H v) (h : σ[i]? = some (some v)) (q : ∀ J ts, Walk J pl.length (fun H' => Same H H') (fun i H v H' => H' = H ∧ ts[i]? = some v) → Each StA pl H ts → R J H) : iPl K i σ H R := by
  obtain ⟨a, ts, rfl, ha | ha, he⟩ := hp
  · exact .inl ⟨_, h, a, rfl, ⟨ts, SqL.of ha⟩, q _ ts (walk_listS ha he.1) he⟩
  · exact .inr ⟨_, h, a, rfl, ⟨ts, SqT.of ha⟩, q _ ts (walk_tupS ha he.1) he⟩
def spKnown : Sp := fun vs H Q _ => ∃ (v : V) (pl : Pl) (k : Kd), vs = [v, .str k.word] ∧ PlB pl H v ∧ pl.length ≤ 100 ∧ ∀ p H', Same H H' → H p = none → H' p = some (.lst ((knownN pl k).map V.str)) → Q (.ref p) H'
theorem ok__law_known (F : FnAt K mg "_law_known" s__law_known) : Cal P w K mg base CX0 1 "_law_known" ["_law_plan_here", "_law_sort"] spKnown := by
  refine Cal.of0 F sc__law_known (fun _ _ _ _ _ _ us hl => match us, hl with | [_, _], _ => rfl) (fun vs H Q E h => ?_) (fun f cdv A outer s H vs Q E hr h => ?_)
  · obtain ⟨v, pl, k, rfl, _⟩ := h
    rfl
  · obtain ⟨v, pl, k, rfl, hp, hl, q⟩ := h
    have hu : (A.deeper (envOfC "_law_known" (defScope s__law_known) s.heap.objs.size f cdv)).units + 1 < cLine := by
      have := hr.un
      omega
    refine ⟨_, (pss_cons (ps_set (i := 2) sc__law_known.nd rfl (by first | exact Or.inl rfl | exact Or.inr rfl) (pe_disp (pps_cons pe_str (pe_tup (pa_cons pe_str (pa_cons pe_str (pa_cons pe_str pa_nil)))) (pps_cons pe_str (pe_tup (pa_cons pe_str pa_nil)) pps_nil)) (by rfl) (by rfl) (fun z => by cases z) (by decide)))
      (pss_cons (ps_if (pt_cmp (pc_din hu (pv 1) (pv 2))) (pss_one (ps_ret (pe_lc (own := [("_law_step", 3)]) (g := gName 3) (te := tOp (rIxT K) (tVar 3) (tC (.int 1))) (tt := tTest (tOp (oIn K) (tOp (rIxT K) (tVar 3) (tC (.int 0))) (tDGet (tVar 2) (tVar 1)))) (by rfl) sc__law_known.nd (pi_or (pi_list (pv 0)) (pi_tup (pv 0))) (blkOk_by (own := [("_law_step", 3)]) (N := ["_law_plan_here", "_law_sort", "_law_words", "_law_step"]) (sc := defScope s__law_known) (by decide +kernel)) (fun _ _ _ _ _ => (pg_name (i := 3) sc__law_known.nd rfl (by first | exact Or.inl rfl | exact Or.inr rfl))) (fun _ _ _ _ _ => (pts_one (pt_cmpR op_in_seq (pe_ix ix_tup (pv 3) pe_int (fun _ _ => rfl)) (pe_dget hu (pv 2) (pv 1) (fun _ _ => rfl)) (by first | exact nomark _ | rfl)))) (fun _ _ _ _ _ => (pe_ix ix_tup (pv 3) pe_int (fun _ _ => rfl)))))) pss_nil)
      (pss_one (ps_ret (pe_lc (own := [("_law_step", 3)]) (g := gName 3) (te := tOp (rIxT K) (tVar 3) (tC (.int 1))) (tt := tTest (tOp (L2.rIn K true) (tOp (rIxT K) (tVar 3) (tC (.int 0))) (tOp (rCatT K) (tDGet (tVar 2) (tC (.str "L"))) (tDGet (tVar 2) (tC (.str "C")))))) (by rfl) sc__law_known.nd (pi_or (pi_list (pv 0)) (pi_tup (pv 0))) (blkOk_by (own := [("_law_step", 3)]) (N := ["_law_plan_here", "_law_sort", "_law_words", "_law_step"]) (sc := defScope s__law_known) (by decide +kernel)) (fun _ _ _ _ _ => (pg_name (i := 3) sc__law_known.nd rfl (by first | exact Or.inl rfl | exact Or.inr rfl))) (fun _ _ _ _ _ => (pts_one (pt_cmpR op_notIn_seq (pe_ix ix_tup (pv 3) pe_int (fun _ _ => rfl)) (pe_op op_catT (pe_dget hu (pv 2) pe_str (fun _ _ => rfl)) (pe_dget hu (pv 2) pe_str (fun _ _ => rfl))) (by first | exact nomark _ | rfl)))) (fun _ _ _ _ _ => (pe_ix ix_tup (pv 3) pe_int (fun _ _ => rfl)))))))), ?_⟩
    refine fun p hp0 => ⟨by show 3 ≤ sizeLine; decide, fun t1 ht1 => ⟨by show 1 ≤ sizeLine; decide, fun t2 ht2 => ?_⟩⟩
    have f1 : Same (upd H p (.dK [])) (upd (upd (upd H p (.dK [])) t1 (.tup lnWords)) t2 (.tup ciWords)) := (same_new ht1).trans (same_new ht2)
    have n1 : t1 ≠ p := Ne.symm (ne_of_none upd_same ht1)
    have n2 : t2 ≠ p := Ne.symm (ne_of_none (f1 _ _ upd_same |> fun _ => (same_new (o := .tup lnWords) ht1) _ _ upd_same) ht2)
    refine ⟨f1 _ _ upd_same, [(.inr "L", .ref t1), (.inr "C", .ref t2)], rfl, by show 2 ≤ 15; decide, ?_⟩
    have g1 : Same H (upd (upd (upd (upd H p (.dK [])) t1 (.tup lnWords)) t2 (.tup ciWords)) p (.dK (mergeK [] [(.inr "L", .ref t1), (.inr "C", .ref t2)]))) := same_put ((same_new hp0).trans f1) hp0
    have g2 : upd (upd (upd (upd H p (.dK [])) t1 (.tup lnWords)) t2 (.tup ciWords)) p (.dK (mergeK [] [(.inr "L", .ref t1), (.inr "C", .ref t2)])) p = some (.dK [(.inr "L", .ref t1), (.inr "C", .ref t2)]) := by
      rw [upd_same]
      have e : (("C" : Str)) ≠ "L" := by decide +kernel
      simp [mergeK, putK, e, Ne.symm e]
    have g3 : upd (upd (upd (upd H p (.dK [])) t1 (.tup lnWords)) t2 (.tup ciWords)) p (.dK (mergeK [] [(.inr "L", .ref t1), (.inr "C", .ref t2)])) t1 = some (.tup lnWords) := by
      rw [upd_ne n1]
      exact same_new ht2 _ _ upd_same
    have g4 : upd (upd (upd (upd H p (.dK [])) t1 (.tup lnWords)) t2 (.tup ciWords)) p (.dK (mergeK [] [(.inr "L", .ref t1), (.inr "C", .ref t2)])) t2 = some (.tup ciWords) := by
      rw [upd_ne n2]
      exact upd_same
    generalize upd (upd (upd (upd H p (.dK [])) t1 (.tup lnWords)) t2 (.tup ciWords)) p (.dK (mergeK [] [(.inr "L", .ref t1), (.inr "C", .ref t2)])) = H1 at g1 g2 g3 g4
    clear f1 n1 n2 ht1 ht2 hp0
    have nL : valV [((.inr "L" : Key), V.ref t1), (.inr "C", .ref t2)] (.inr "L") = some (.ref t1) := valV_pos rfl
    have nC : valV [((.inr "L" : Key), V.ref t1), (.inr "C", .ref t2)] (.inr "C") = some (.ref t2) := by
      rw [valV_neg (by intro z; exact absurd (Sum.inr.inj z) (by decide +kernel))]
      exact valV_pos rfl
    have nP : valV [((.inr "L" : Key), V.ref t1), (.inr "C", .ref t2)] (.inr "P") = none := by
      rw [valV_neg (by intro z; exact absurd (Sum.inr.inj z) (by decide +kernel)), valV_neg (by intro z; exact absurd (Sum.inr.inj z) (by decide +kernel))]
      rfl
    refine gN ?_
    refine ⟨_, rfl, _, rfl, p, _, rfl, DGet.k (k := .inr k.word) g2, ?_⟩
    have hp1 := mo_plB _ _ _ g1 hp
    have one : ∀ (j : Kd) (t : Addr) (ws : List V), k = j → H1 t = some (.tup ws) → ws.all flatV = true → (∀ s : Stp, inV (.str s.word) ws = decide (s.kd = j)) → valV [((.inr "L" : Key), V.ref t1), (.inr "C", .ref t2)] (.inr j.word) = some (.ref t) →
        tRet (tLc (iPl K 0) (gName 3) (tTest (tOp (oIn K) (tOp (rIxT K) (tVar 3) (tC (.int 0))) (tDGet (tVar 2) (tVar 1)))) (tOp (rIxT K) (tVar 3) (tC (.int 1))) [3]) { nx := fun _ H' => Q .non H', rt := Q } [some v, some (.str k.word), some (.ref p), none] H1 := by
      rintro j t ws rfl ht hw hin hv
      refine ipl hp1 rfl fun J ts wk he D hD => ?_
      refine known_comp wk he hl hD (fun x s i u H' s' hu' _ => ⟨_, fun Q q => q, rfl, fun R hR => ?_, fun H2 R s2 hR => ?_⟩) fun H' s' hd => q D H' (g1.trans s') (g1.free hD) hd
      · refine (eg_word (i := 3) rfl hu').run fun u2 H2 s2 e2 => ?_
        subst e2
        refine ⟨_, rfl, _, rfl, p, .ref t, rfl, hv ▸ DGet.k (k := .inr k.word) ((s'.trans s2) _ _ g2), t, ws, rfl, .inr (SqT.of ((s'.trans s2) _ _ ht)), rfl, hw, _, rfl, ?_⟩
        have hR2 := hR H2 s2
        rw [← hin] at hR2
        exact hR2
      · exact (eg_own (i := 3) rfl (mo_st _ _ _ s2 hu')).run fun u2 H3 s3 e3 => by
          subst e3
          exact hR H3 s3
    cases k with
    | ln =>
      rw [show (Kd.ln).word = "L" from rfl, nL]
      exact ⟨_, rfl, yes rfl (one .ln t1 lnWords rfl g3 flat_words.1 (fun s => (st_words s).1) nL)⟩
    | ci =>
      rw [show (Kd.ci).word = "C" from rfl, nC]
      exact ⟨_, rfl, yes rfl (one .ci t2 ciWords rfl g4 flat_words.2.1 (fun s => (st_words s).2.1) nC)⟩
    | pt =>
      rw [show (Kd.pt).word = "P" from rfl, nP]
      refine ⟨_, rfl, no rfl ?_⟩
      refine ipl hp1 rfl fun J ts wk he D hD => ?_
      refine known_comp wk he hl hD (fun x s i u H' s' hu' _ => ⟨_, fun Q q => q, rfl, fun R hR => ?_, fun H2 R s2 hR => ?_⟩) fun H' s' hd => q D H' (g1.trans s') (g1.free hD) hd
      · refine (eg_word (i := 3) rfl hu').run fun u2 H2 s2 e2 => ?_
        subst e2
        have s3 := s'.trans s2
        refine ⟨_, rfl, p, .ref t1, rfl, nL ▸ DGet.k (k := .inr "L") (s3 _ _ g2), _, rfl, p, .ref t2, rfl, nC ▸ DGet.k (k := .inr "C") (s3 _ _ g2), t1, t2, lnWords, ciWords, rfl, rfl, SqT.of (s3 _ _ g3), SqT.of (s3 _ _ g4), (fun z => by cases z), (by show 3 + 1 ≤ sizeLine; decide), (fun z => by cases z), fun _ r hr => ?_⟩
        refine ⟨r, lnWords ++ ciWords, rfl, .inr (SqT.of upd_same), rfl, flat_words.2.2, _, rfl, ?_⟩
        have hR2 := hR _ (s2.trans (same_new (o := .tup (lnWords ++ ciWords)) hr))
        have ew := (st_words s).2.2
        have e3 : decide (s.kd = Kd.pt) = !inV (.str s.word) (lnWords ++ ciWords) := by
          rw [ew]
          cases decide (s.kd = Kd.pt) <;> rfl
        rw [e3] at hR2
        exact hR2
      · exact (eg_own (i := 3) rfl (mo_st _ _ _ s2 hu')).run fun u2 H3 s3 e3 => by
          subst e3
          exact hR H3 s3
end
end Ph
set_option linter.all false
set_option maxRecDepth 100000
set_option maxHeartbeats 40000000
set_option exponentiation.threshold 500
namespace Ph
open PySem PySem.Spec PyProof.Rows L2 LamX
open C8 (pss_cut)
theorem seq_at {n k : Nat} (h : k < n) : seqIndex? (k : Int) n = some k := by
  unfold seqIndex?
  simp
  omega
theorem map_erase {α β : Type} (f : α → β) : ∀ (l : List α) (i : Nat), (l.map f).eraseIdx i = (l.eraseIdx i).map f
  | [], _ => rfl
  | _ :: _, 0 => rfl
  | a :: l, i + 1 => congrArg (f a :: ·) (map_erase f l i)
theorem circ_of {s : Stp} (h : s.word = "circle") : ∃ m q, s = .two .circle m q := by
  have e := (st_words s).2.1
  rw [h] at e
  have e2 : inV (.str "circle") ciWords = true := by decide +kernel
  rw [e2] at e
  have e3 : s.kd = .ci := of_decide_eq_true e.symm
  cases s with
  | two b x y => cases b <;> first | exact ⟨x, y, rfl⟩ | cases e3
  | _ => cases e3
theorem flat_st (s : Str × Stp) : (stV s).all flatV = true := by
  rw [List.all_eq_true]
  intro v hv
  unfold stV Stp.rest at hv
  simp only [List.mem_cons, List.mem_append, List.mem_map] at hv
  rcases hv with rfl | rfl | ⟨_, _, rfl⟩ | ⟨_, _, rfl⟩ <;> rfl
theorem flat_cut (lo hi : Option Int) {xs : List V} (h : xs.all flatV = true) : (cutV xs lo hi).all flatV = true := by
  rw [List.all_eq_true] at h ⊢
  exact fun v hv => h v (List.mem_of_mem_drop (List.mem_of_mem_take hv))
theorem Deck.keep {D C p : Addr} {H : Hp} {o : HO} (d : Deck D C H) (n1 : p ≠ D) (n2 : p ≠ C) : Deck D C (upd H p o) := by
  obtain ⟨cs, c, n, d1, d2, d3⟩ := d.ex
  exact ⟨d.ne, cs, c, n, by rw [upd_ne (Ne.symm n1)]; exact d1, by rw [upd_ne (Ne.symm n2)]; exact d2, d3⟩
theorem KpD.fresh {D C p : Addr} {H H' : Hp} (k : KpD D C H H') (d : Deck D C H') (h : H' p = none) : H p = none := by
  obtain ⟨n1, n2⟩ := d.neD h
  cases e : H p with
  | none => rfl
  | some o =>
    rw [k p o n1 n2 e] at h
    cases h
/-- a place that was new is written -/
theorem KpD.put {D C p : Addr} {H H' : Hp} {o : HO} (k : KpD D C H H') (h : H p = none) : KpD D C H (upd H' p o) := fun b u n1 n2 e => by
  rw [upd_ne (ne_of_none e h)]
  exact k b u n1 n2 e
section
variable {P : Program} {w : World} {K : PySem.W.Frag} {mg : Str → Option Value} {base : Heap} {CE CN CR : Addr}
theorem ipl2 {K : PySem.W.Frag} {pl : Pl} {i : Nat} {σ : L2.St} {H : Hp} {v : V} {R : It → Hp → Prop} (hp : PlB pl H v) (h : σ[i]? = some (some v))
    (q : ∀ J ts a, v = .ref a → Walk J pl.length (fun H' => ∀ o, H a = some o → H' a = some o) (fun i H v H' => H' = H ∧ ts[i]? = some v) → Each StA pl H ts → R J H) : iPl K i σ H R := by
  obtain ⟨a, ts, rfl, ha | ha, he⟩ := hp
  · have w := walk_list (K := K) (a := a) (xs := ts)
    rw [he.1] at w
    exact .inl ⟨_, h, a, rfl, ⟨ts, SqL.of ha⟩, q _ ts a rfl ⟨fun i H lt s => w.goes i H lt (SqL.of (s _ ha)), fun H s => w.stops H (SqL.of (s _ ha)), fun i H v H' lt s y => w.yields i H v H' lt (SqL.of (s _ ha)) y⟩ he⟩
  · have w := walk_tup (K := K) (a := a) (xs := ts)
    rw [he.1] at w
    exact .inr ⟨_, h, a, rfl, ⟨ts, SqT.of ha⟩, q _ ts a rfl ⟨fun i H lt s => w.goes i H lt (SqT.of (s _ ha)), fun H s => w.stops H (SqT.of (s _ ha)), fun i H v H' lt s y => w.yields i H v H' lt (SqT.of (s _ ha)) y⟩ he⟩
abbrev s__law_two : Stmt := top 86
theorem sc__law_two : FnScope ["_law_deck_here", "_law_some", "_law_left", "_law_first"] ["_law_deck_here", "_law_some"] (defScope s__law_two) := ⟨rfl, rfl, rfl, by decide +kernel, rfl, by decide +kernel, by decide +kernel⟩
def spTwo : Sp := fun vs H Q _ => ∃ (D C a : Addr) (ns : List Str), vs = [.ref D, .ref a] ∧ a ≠ D ∧ a ≠ C ∧ H a = some (.lst (ns.map V.str)) ∧ 2 ≤ ns.length ∧ ns.length ≤ 1000 ∧ Deck D C H ∧
  ∀ t x y H', KpD D C H H' → Deck D C H' → H t = none → H' t = some (.tup [.str x, .str y]) → x ∈ ns → y ∈ ns → Q (.ref t) H'
theorem ok__law_two (B : Bl mg) (c__law_draw : Cal P w K mg base CX0 1 "_law_draw" ["_law_deck_here", "_law_many_here"] spDraw) (F : FnAt K mg "_law_two" s__law_two) : Cal P w K mg base CX0 2 "_law_two" ["_law_deck_here", "_law_some"] spTwo := by
  refine Cal.of0 F sc__law_two (fun _ _ _ _ _ _ us hl => match us, hl with | [_, _], _ => rfl) (fun vs H Q E h => ?_) (fun f cdv A outer s H vs Q E hr h => ?_)
  · obtain ⟨D, C, a, ns, rfl, _⟩ := h
    rfl
  · obtain ⟨D, C, a, ns, rfl, n1, n2, ha, l0, l1, dk, k⟩ := h
    refine ⟨_, (pss_cons (ps_set (i := 2) sc__law_two.nd rfl (by first | exact Or.inl rfl | exact Or.inr rfl) (pe_callTy call_list_of (by rfl) B.list (by decide +kernel) (pa_cons (pv 1) pa_nil)))
      (pss_cons (ps_set (i := 3) sc__law_two.nd rfl (by first | exact Or.inl rfl | exact Or.inr rfl) (pe_bm PySem.F.plainAttrs_list PySem.F.slot_list_pop PySem.F.type_list_pop mt_popAt (pv 2) (pa_cons (pe_c c__law_draw (hr.mono (by omega)) (pa_cons (pv 0) (pa_cons (pe_callB call_len_seq (by rfl) B.len (by decide +kernel) (pa_cons (pv 2) pa_nil)) pa_nil))) pa_nil)))
      (pss_one (ps_ret (pe_tup (pa_cons (pv 3) (pa_cons (pe_bm PySem.F.plainAttrs_list PySem.F.slot_list_pop PySem.F.type_list_pop mt_popAt (pv 2) (pa_cons (pe_c c__law_draw (hr.mono (by omega)) (pa_cons (pv 0) (pa_cons (pe_callB call_len_seq (by rfl) B.len (by decide +kernel) (pa_cons (pv 2) pa_nil)) pa_nil))) pa_nil)) pa_nil))))))), ?_⟩
    refine ⟨_, rfl, a, _, rfl, .inl (SqL.of ha), fun L hL => ?_⟩
    obtain ⟨m1, m2⟩ := dk.neD hL
    have dk1 := dk.same (same_new (o := .lst (ns.map V.str)) hL)
    have kp1 : KpD D C H (upd H L (.lst (ns.map V.str))) := KpD.refl.new hL
    have e1 : upd H L (.lst (ns.map V.str)) L = some (.lst (ns.map V.str)) := upd_same
    generalize upd H L (.lst (ns.map V.str)) = H1 at dk1 kp1 e1 ⊢
    refine ⟨_, rfl, .inl ⟨rfl, _, SqL.of e1⟩, _, rfl, _, rfl, L, _, rfl, .inl (SqL.of e1), D, C, _, rfl, by rw [List.length_map]; omega, by rw [List.length_map]; omega, dk1, fun k1 H2 a1 b1 kp2 dk2 => ?_⟩
    obtain ⟨i, rfl⟩ := Int.eq_ofNat_of_zero_le a1
    rw [List.length_map] at b1
    have li : i < ns.length := by omega
    have e2 := kp2 _ _ m1 m2 e1
    refine ⟨L, _, _, i, .str ns[i], rfl, rfl, e2, by omega, by omega, by rw [List.length_map]; exact seq_at li, by simp [li], ?_⟩
    rw [map_erase]
    have dk3 := dk2.keep (o := .lst ((ns.eraseIdx i).map V.str)) m1 m2
    have kp3 : KpD D C H (upd H2 L (.lst ((ns.eraseIdx i).map V.str))) := (kp1.trans kp2).put hL
    have e3 : upd H2 L (.lst ((ns.eraseIdx i).map V.str)) L = some (.lst ((ns.eraseIdx i).map V.str)) := upd_same
    generalize upd H2 L (.lst ((ns.eraseIdx i).map V.str)) = H3 at dk3 kp3 e3 ⊢
    have le : (ns.eraseIdx i).length = ns.length - 1 := by rw [List.length_eraseIdx, if_pos li]
    refine ⟨_, rfl, _, rfl, .inl ⟨rfl, _, SqL.of e3⟩, _, rfl, _, rfl, L, _, rfl, .inl (SqL.of e3), D, C, _, rfl, by rw [List.length_map]; omega, by rw [List.length_map]; omega, dk3, fun k2 H4 a2 b2 kp4 dk4 => ?_⟩
    obtain ⟨j, rfl⟩ := Int.eq_ofNat_of_zero_le a2
    rw [List.length_map] at b2
    have lj : j < (ns.eraseIdx i).length := by omega
    have e4 := kp4 _ _ m1 m2 e3
    refine ⟨L, _, _, j, .str (ns.eraseIdx i)[j], rfl, rfl, e4, by omega, by omega, by rw [List.length_map]; exact seq_at lj, by simp [lj], ?_⟩
    rw [map_erase]
    have dk5 := dk4.keep (o := .lst (((ns.eraseIdx i).eraseIdx j).map V.str)) m1 m2
    have kp5 : KpD D C H (upd H4 L (.lst (((ns.eraseIdx i).eraseIdx j).map V.str))) := (kp3.trans kp4).put hL
    generalize upd H4 L (.lst (((ns.eraseIdx i).eraseIdx j).map V.str)) = H5 at dk5 kp5 ⊢
    exact ⟨by show 2 ≤ sizeLine; decide, fun t ht => k t _ _ _ (kp5.new ht) (dk5.same (same_new ht)) (kp5.fresh dk5 ht) upd_same (List.getElem_mem li) (List.mem_of_mem_eraseIdx (List.getElem_mem lj))⟩
/-! ### what other may stand for -/
def OthA (pl : Pl) : Ap := fun H v => ∃ (a : Addr) (l c q : Str), v = .ref a ∧ H a = some (.tup [.str l, .str c, .str q]) ∧ (∃ s, (l, s) ∈ pl ∧ s.kd = .ln) ∧ ∃ m, (c, Stp.two .circle m q) ∈ pl
theorem mi_oth {pl : Pl} : MoI (OthA pl) := fun _ _ _ s ⟨a, l, c, q, e, h, k⟩ => ⟨a, l, c, q, e, s _ _ h True.intro, k⟩
def circs (pl : Pl) : Pl := pl.filter fun s => decide (s.2.word = "circle")
def cq : Stp → Str
  | .two _ _ q => q
  | _ => ""
def hiOf (st : Stp) : Int := if st.word = "line" then 4 else 3
def thrB (q : Str) (l : Str × Stp) : Bool := inV (.str q) (cutV (stV l) (some 2) (some (hiOf l.2)))
def isOth (c : Str × Stp) (l : Str × Stp) : Bool := decide (l.2.kd = .ln) && thrB (cq c.2) l
def cntO (pl : Pl) (c : Str × Stp) : Nat := (pl.filter (isOth c)).length
/-- how many there are -/
def othLen (pl : Pl) : Nat := ((circs pl).map (cntO pl)).sum
theorem circs_snoc {pl : Pl} {i : Nat} {s : Str × Stp} (h : pl[i]? = some s) : circs (pl.take (i + 1)) = if s.2.word = "circle" then circs (pl.take i) ++ [s] else circs (pl.take i) := by
  have lt := (List.getElem?_eq_some_iff.mp h).1
  have e := (List.getElem?_eq_some_iff.mp h).2
  unfold circs
  rw [List.take_succ_eq_append_getElem lt, e, List.filter_append]
  by_cases z : s.2.word = "circle"
  · rw [if_pos z]
    simp [z]
  · rw [if_neg z]
    simp [z]
theorem oth_snoc {pl : Pl} {j : Nat} {s c : Str × Stp} (h : pl[j]? = some s) : ((pl.take (j + 1)).filter (isOth c)).length = ((pl.take j).filter (isOth c)).length + if isOth c s = true then 1 else 0 := by
  have lt := (List.getElem?_eq_some_iff.mp h).1
  have e := (List.getElem?_eq_some_iff.mp h).2
  rw [List.take_succ_eq_append_getElem lt, e, List.filter_append, List.length_append]
  congr 1
  cases h2 : isOth c s <;> simp [h2]
theorem sum_snoc {f : Str × Stp → Nat} {l : Pl} {i : Nat} {s : Str × Stp} (h : l[i]? = some s) : ((l.take (i + 1)).map f).sum = ((l.take i).map f).sum + f s := by
  have lt := (List.getElem?_eq_some_iff.mp h).1
  have e := (List.getElem?_eq_some_iff.mp h).2
  rw [List.take_succ_eq_append_getElem lt, e, List.map_append, List.sum_append]
  simp
abbrev s__law_others : Stmt := top 87
theorem sc__law_others : FnScope ["_law_plan_here", "_law_found", "_law_c", "_law_step", "_law_line", "_law_through"] ["_law_plan_here"] (defScope s__law_others) := ⟨rfl, rfl, rfl, by decide +kernel, rfl, by decide +kernel, by decide +kernel⟩
def spOthers : Sp := fun vs H Q _ => ∃ (v : V) (pl : Pl), vs = [v] ∧ PlB pl H v ∧ pl.length ≤ 100 ∧ ∀ p xs H', Same H H' → H p = none → H' p = some (.lst xs) → (∀ x ∈ xs, OthA pl H' x) → xs.length = othLen pl → xs.length ≤ 20000 → Q (.ref p) H'
theorem ok__law_others (F : FnAt K mg "_law_others" s__law_others) : Cal P w K mg base CX0 1 "_law_others" ["_law_plan_here"] spOthers := by
  refine Cal.of0 F sc__law_others (fun _ _ _ _ _ _ us hl => match us, hl with | [_], _ => rfl) (fun vs H Q E h => ?_) (fun f cdv A outer s H vs Q E hr h => ?_)
  · obtain ⟨v, pl, rfl, _⟩ := h
    rfl
  · obtain ⟨v, pl, rfl, hp, hl, q⟩ := h
    refine ⟨_, (pss_cons (ps_set (i := 1) sc__law_others.nd rfl (by first | exact Or.inl rfl | exact Or.inr rfl) (pe_lst pa_nil))
      (pss_cons (ps_for PassesOwn.never rfl (pi_list (pe_lc (own := [("_law_step", 3)]) (g := gName 3) (te := tVar 3) (tt := tTest (tOp rEq (tOp (rIxT K) (tVar 3) (tC (.int 0))) (tC (.str "circle")))) (by rfl) sc__law_others.nd (pi_or (pi_list (pv 0)) (pi_tup (pv 0))) (blkOk_by (own := [("_law_step", 3)]) (N := ["_law_plan_here", "_law_found", "_law_c", "_law_step", "_law_line", "_law_through"]) (sc := defScope s__law_others) (by decide +kernel)) (fun _ _ _ _ _ => (pg_name (i := 3) sc__law_others.nd rfl (by first | exact Or.inl rfl | exact Or.inr rfl))) (fun _ _ _ _ _ => (pts_one (pt_cmpR op_eq (pe_ix ix_tup (pv 3) pe_int (fun _ _ => rfl)) pe_str (by first | exact nomark _ | rfl)))) (fun _ _ _ _ _ => (pv 3)))) (pg_name (i := 2) sc__law_others.nd rfl (by first | exact Or.inl rfl | exact Or.inr rfl)) (pss_one (ps_for PassesOwn.never rfl (pi_or (pi_list (pv 0)) (pi_tup (pv 0))) (pg_name (i := 4) sc__law_others.nd rfl (by first | exact Or.inl rfl | exact Or.inr rfl)) (pss_cons (ps_set (i := 5) sc__law_others.nd rfl (by first | exact Or.inl rfl | exact Or.inr rfl) (pe_ifExp (pt_cmpR op_eq (pe_ix ix_tup (pv 4) pe_int (fun _ _ => rfl)) pe_str (by first | exact nomark _ | rfl)) (pe_slice sl_tupA (pv 4) (po_some pe_int) (po_some pe_int)) (pe_slice sl_tupA (pv 4) (po_some pe_int) (po_some pe_int))))
      (pss_one (ps_if (PW.pt (pw_and (pt_cmpR op_in_seq (pe_ix ix_tup (pv 4) pe_int (fun _ _ => rfl)) (pe_tup (pa_cons pe_str (pa_cons pe_str (pa_cons pe_str pa_nil)))) (by first | exact nomark _ | rfl)) (pw_and1 (pt_cmpR op_in_seq (pe_ix ix_tup (pv 2) pe_int (fun _ _ => rfl)) (pv 5) (by first | exact nomark _ | rfl))))) (pss_one (ps_expr (pe_bm PySem.F.plainAttrs_list PySem.F.slot_list_append PySem.F.type_list_append mt_append (pv 1) (pa_cons (pe_tup (pa_cons (pe_ix ix_tup (pv 4) pe_int (fun _ _ => rfl)) (pa_cons (pe_ix ix_tup (pv 2) pe_int (fun _ _ => rfl)) (pa_cons (pe_ix ix_tup (pv 2) pe_int (fun _ _ => rfl)) pa_nil)))) pa_nil)))) pss_nil))))))
      (pss_one (ps_ret (pv 1))))), ?_⟩
    refine ⟨by show 0 ≤ sizeLine; decide, fun F hF => ?_⟩
    have s1 : Same H (upd H F (.lst [])) := same_new hF
    have e1 : upd H F (.lst []) F = some (.lst []) := upd_same
    generalize upd H F (.lst []) = H1 at s1 e1
    refine gN ?_
    have hp1 := mo_plB _ _ _ s1 hp
    refine ipl hp1 rfl fun J ts wk he D hD => ?_
    refine lc_it wk (fun i Hx => Same H1 Hx ∧ ∃ cs, Hx D = some (.lst cs) ∧ cs.length ≤ i ∧ Each StA (circs (pl.take i)) Hx cs) ⟨same_new hD, [], upd_same, Nat.le_refl _, rfl, fun c h e => by cases e⟩ (fun i Hx _ h => h.1) (fun i v2 Hx Hy lt h y => ?_) fun Hx h => ?_
    · obtain ⟨rfl, hv⟩ := y
      obtain ⟨s2, cs, hc, lc, hcs⟩ := h
      obtain ⟨x, st, hpi⟩ : ∃ x st, pl[i]? = some (x, st) := ⟨_, _, List.getElem?_eq_getElem lt⟩
      obtain ⟨u, g1, g2⟩ := he.2 i _ hpi
      obtain rfl : u = v2 := Option.some.inj (g1.symm.trans hv)
      have hu := mo_st _ _ _ s2 g2
      refine ⟨rfl, ?_⟩
      refine (eg_word (i := 3) rfl hu).run fun u2 H2 s3 e2 => ?_
      subst e2
      refine ⟨rfl, _, rfl, ?_⟩
      by_cases hw : st.word = "circle"
      · refine yes (strYes hw) ?_
        obtain ⟨m, q2, rfl⟩ := circ_of hw
        have si : SameI H2 (upd H2 D (.lst (cs ++ [u]))) := SameI.put (s3 _ _ hc) (fun z => z)
        refine ⟨_, rfl, cs, s3 _ _ hc, by rw [sizeLine_eq]; omega, same_put (s2.trans s3) hD, _, upd_same, by simp; omega, ?_⟩
        rw [circs_snoc hpi, if_pos hw]
        exact (hcs.sameI (fun _ => mi_st) ((SameI.of s3).trans si)).snoc (mi_st _ _ _ ((SameI.of s3).trans si) hu)
      · refine no (strNo hw) ⟨s2.trans s3, cs, s3 _ _ hc, by omega, ?_⟩
        rw [circs_snoc hpi, if_neg hw]
        exact hcs.same (fun _ => mo_st) s3
    obtain ⟨s2, cs, hc, lc, hcs⟩ := h
    rw [List.take_length] at hcs
    have nDF : D ≠ F := Ne.symm (ne_of_none e1 hD)
    refine ⟨D, rfl, ⟨cs, SqL.of hc⟩, ?_⟩
    have s12 := s1.trans s2
    refine for_it (walk_list (K := K)) (fun i σ' H' => SameX F Hx H' ∧ (∃ y2 y4 y5, σ' = [some v, some (.ref F), y2, none, y4, y5]) ∧ ∃ fs, H' F = some (.lst fs) ∧ (∀ x ∈ fs, OthA pl H' x) ∧ fs.length ≤ 100 * i ∧ fs.length = (((circs pl).take i).map (cntO pl)).sum) ⟨SameX.of (Same.refl _), ⟨none, none, none, rfl⟩, [], s2 _ _ e1, fun x h => (by cases h), Nat.zero_le _, rfl⟩ (fun i σ' H' _ h => SqL.of (h.1 _ _ nDF hc)) (fun i z σ' H' H2 lt h y => ?_) fun σ' H' h => ?_
    · obtain ⟨r1, ⟨y2, y4, y5, rfl⟩, fs, hf, hfs, lf, cf⟩ := h
      obtain ⟨rfl, hz⟩ := y
      rw [hcs.1] at lt
      have lcc : (circs pl).length ≤ 100 := by rw [← hcs.1]; omega
      obtain ⟨cc, hcc⟩ : ∃ cc, (circs pl)[i]? = some cc := ⟨_, List.getElem?_eq_getElem lt⟩
      obtain ⟨z', hz', hx⟩ := hcs.2 i cc hcc
      obtain rfl : z' = z := Option.some.inj (hz'.symm.trans hz)
      obtain ⟨x, cst⟩ := cc
      obtain ⟨hxp, hcw⟩ : (x, cst) ∈ pl ∧ cst.word = "circle" := by
        have := List.mem_of_getElem? hcc
        unfold circs at this
        rw [List.mem_filter] at this
        exact ⟨this.1, of_decide_eq_true this.2⟩
      obtain ⟨m, q2, rfl⟩ := circ_of hcw
      have sI : SameI Hx H2 := r1.imm (s2 _ _ e1)
      have hx2 := mi_st _ _ _ sI hx
      have hpX : PlB pl H2 v := by
        obtain ⟨a, vs, rfl, ha, hE⟩ := mo_plB _ _ _ s12 hp
        have na : a ≠ F := fun z => by
          subst z
          obtain ⟨a', vs', e', ha', _⟩ := hp
          cases e'
          rcases ha' with h | h <;> (rw [hF] at h; cases h)
        exact ⟨a, vs, rfl, ha.elim (fun z => .inl (r1 _ _ na z)) (fun z => .inr (r1 _ _ na z)), hE.sameI (fun _ => mi_st) sI⟩
      refine gN ?_
      obtain ⟨a, _, rfl, _⟩ := id hp
      have na : a ≠ F := fun z => by
        subst z
        obtain ⟨a', vs', e', ha', _⟩ := hp
        cases e'
        rcases ha' with h | h <;> (rw [hF] at h; cases h)
      refine ipl2 hpX rfl fun J2 ts2 a2 ea wk2 he2 => ?_
      cases ea
      refine for_it wk2 (fun j σ' H' => SameX F H2 H' ∧ (∃ y4 y5, σ' = [some (.ref a), some (.ref F), some z', none, y4, y5]) ∧ ∃ fs, H' F = some (.lst fs) ∧ (∀ x ∈ fs, OthA pl H' x) ∧ fs.length ≤ 100 * i + j ∧ fs.length = (((circs pl).take i).map (cntO pl)).sum + ((pl.take j).filter (isOth (x, .two .circle m q2))).length) ⟨SameX.of (Same.refl _), ⟨y4, y5, rfl⟩, fs, hf, hfs, by omega, by simpa using cf⟩ (fun j σ' H' _ h o e => h.1 _ _ na e) (fun j u σ' H' H3 lt2 h y => ?_) fun σ' H' h => ?_
      · obtain ⟨r2, ⟨y4, y5, rfl⟩, fs2, hf2, hfs2, lf2, cf2⟩ := h
        obtain ⟨rfl, hu⟩ := y
        obtain ⟨xl, st, hpj⟩ : ∃ x st, pl[j]? = some (x, st) := ⟨_, _, List.getElem?_eq_getElem lt2⟩
        obtain ⟨u', g1, g2⟩ := he2.2 j _ hpj
        obtain rfl : u' = u := Option.some.inj (g1.symm.trans hu)
        have sI2 := r2.imm hf
        have hu2 := mi_st _ _ _ sI2 g2
        have hx3 := mi_st _ _ _ sI2 hx2
        obtain ⟨au, rfl, hau⟩ := id hu2
        obtain ⟨az, rfl, haz⟩ := id hx3
        refine gN ?_
        -- the points that the line is through
        have thr : ∀ {R : V → Hp → Prop}, (∀ t H4, Same H3 H4 → H4 t = some (.tup (cutV (stV (xl, st)) (some 2) (some (hiOf st)))) → R (.ref t) H4) → tIf (tTest (tOp rEq (tOp (rIxT K) (tVar 4) (tC (.int 0))) (tC (.str "line")))) (tSl (rSlA K) (tVar 4) (tPart (tC (.int 2))) (tPart (tC (.int 4)))) (tSl (rSlA K) (tVar 4) (tPart (tC (.int 2))) (tPart (tC (.int 3)))) [some (.ref a), some (.ref F), some (.ref az), none, some (.ref au), y5] H3 R := by
          intro R hR
          have two : ∀ {H5 : Hp} {hi : Nat}, (hi : Int) = hiOf st → Same H3 H5 → tSl (rSlA K) (tVar 4) (tPart (tC (.int 2))) (tPart (tC (.int (hi : Nat)))) [some (.ref a), some (.ref F), some (.ref az), none, some (.ref au), y5] H5 R := fun {H5 hi} eh s5 => by
            refine ⟨_, rfl, 2, rfl, _, rfl, au, _, rfl, SqT.of (s5 _ _ hau), fun z => ?_, fun _ p hp => hR p _ (s5.trans (same_new hp)) (by rw [eh]; exact upd_same)⟩
            have h2 := z.1
            rw [show (2 : Int) = ((2 : Nat) : Int) from rfl, HT.sIx_nat] at h2
            have h3 : 2 ≤ (stV (xl, st)).length := by unfold stV; simp
            omega
          refine (eg_word (i := 4) rfl (show StA (xl, st) H3 (.ref au) from ⟨au, rfl, hau⟩)).run fun u2 H5 s5 e5 => ?_
          subst e5
          refine ⟨rfl, _, rfl, ?_⟩
          by_cases hw : st.word = "line"
          · exact yes (strYes hw) (two (hi := 4) (by unfold hiOf; rw [if_pos hw]; rfl) s5)
          · exact no (strNo hw) (two (hi := 3) (by unfold hiOf; rw [if_neg hw]; rfl) s5)
        refine thr fun t H4 s4 ht => ?_
        have hxs := flat_cut (some 2) (some (hiOf st)) (flat_st (xl, st))
        refine gN ?_
        dsimp only
        refine (eg_word (i := 4) rfl (show StA (xl, st) H4 (.ref au) from ⟨au, rfl, s4 _ _ hau⟩)).run fun u2 H5 s5 e5 => ?_
        subst e5
        refine ⟨by show 3 ≤ sizeLine; decide, fun r hr => ?_⟩
        have s6 := same_new (o := .tup lnWords) hr
        refine ⟨r, lnWords, rfl, .inr (SqT.of upd_same), rfl, flat_words.1, _, rfl, ?_⟩
        have s46 := (s4.trans s5).trans s6
        have fin0 : ∀ H6, isOth (x, .two .circle m q2) (xl, st) = false → Same H3 H6 → SameX F H2 H6 ∧ (∃ y4 y5, [some (.ref a), some (.ref F), some (.ref az), none, some (.ref au), some (.ref t)] = [some (V.ref a), some (.ref F), some (.ref az), none, y4, y5]) ∧ ∃ fs, H6 F = some (.lst fs) ∧ (∀ x ∈ fs, OthA pl H6 x) ∧ fs.length ≤ 100 * i + (j + 1) ∧ fs.length = (((circs pl).take i).map (cntO pl)).sum + ((pl.take (j + 1)).filter (isOth (x, .two .circle m q2))).length := fun H6 no6 s6 =>
          ⟨r2.trans (SameX.of s6), ⟨_, _, rfl⟩, fs2, s6 _ _ hf2, fun x hx => mi_oth _ _ _ (SameI.of s6) (hfs2 x hx), by omega, by rw [oth_snoc hpj, no6]; simpa using cf2⟩
        have ew := (st_words st).1
        dsimp only
        by_cases hk : st.kd = .ln
        · refine yes (by show inV (V.str st.word) lnWords = true; rw [ew]; simpa using hk) ?_
          refine ⟨_, rfl, az, _, (3 : Nat), .str q2, rfl, rfl, SqT.of (s46 _ _ haz), atI_nat rfl, _, rfl, t, _, rfl, .inr (SqT.of ((s5.trans s6) _ _ ht)), rfl, hxs, _, rfl, ?_⟩
          have eo : isOth (x, .two .circle m q2) (xl, st) = inV (V.str q2) (cutV (stV (xl, st)) (some 2) (some (hiOf st))) := by
            show (decide (st.kd = .ln) && _) = _
            rw [decide_eq_true hk]
            rfl
          cases hin : (if false = true then !inV (V.str q2) (cutV (stV (xl, st)) (some 2) (some (hiOf st))) else inV (V.str q2) (cutV (stV (xl, st)) (some 2) (some (hiOf st)))) with
          | true =>
            have hin2 : inV (V.str q2) (cutV (stV (xl, st)) (some 2) (some (hiOf st))) = true := hin
            refine yes rfl ?_
            refine ⟨_, rfl, .inl ⟨rfl, _, SqL.of (s46 _ _ hf2)⟩, _, rfl, au, _, (1 : Nat), .str xl, rfl, rfl, SqT.of (s46 _ _ hau), atI_nat rfl, _, rfl, az, _, (1 : Nat), .str x, rfl, rfl, SqT.of (s46 _ _ haz), atI_nat rfl, _, rfl, az, _, (3 : Nat), .str q2, rfl, rfl, SqT.of (s46 _ _ haz), atI_nat rfl, by show 3 ≤ sizeLine; decide, fun r3 hr3 => ?_⟩
            have s7 := same_new (o := .tup [.str xl, .str x, .str q2]) hr3
            have s37 := s46.trans s7
            refine ⟨F, fs2, _, rfl, rfl, s37 _ _ hf2, by rw [sizeLine_eq]; omega, (r2.trans (SameX.of s37)).trans SameX.put, ⟨_, _, rfl⟩, _, upd_same, fun y hy => ?_, by simp; omega, by rw [oth_snoc hpj, eo, hin2, if_pos rfl, List.length_append, cf2]; simp; omega⟩
            have si := SameI.put (o' := .lst (fs2 ++ [.ref r3])) (s37 _ _ hf2) (fun z => z)
            rcases List.mem_append.mp hy with h | h
            · exact mi_oth _ _ _ ((SameI.of s37).trans si) (hfs2 y h)
            · rw [List.mem_singleton] at h
              subst h
              exact ⟨r3, xl, x, q2, rfl, si _ _ upd_same True.intro, ⟨st, List.mem_of_getElem? hpj, hk⟩, m, hxp⟩
          | false => exact no rfl (fin0 _ (eo.trans hin) s46)
        · exact no (by show inV (V.str st.word) lnWords = false; rw [ew]; simpa using hk) (fin0 _ (by show (decide (st.kd = .ln) && _) = _; rw [decide_eq_false hk]; rfl) s46)
      · obtain ⟨r2, ⟨y4, y5, rfl⟩, fs2, hf2, hfs2, lf2, cf2⟩ := h
        rw [List.take_length] at cf2
        exact ⟨r1.trans r2, ⟨_, _, _, rfl⟩, fs2, hf2, hfs2, by omega, by rw [sum_snoc hcc]; exact cf2⟩
    · obtain ⟨r1, ⟨y2, y4, y5, rfl⟩, fs, hf, hfs, lf, cf⟩ := h
      rw [show cs.length = (circs pl).length from hcs.1, List.take_length] at cf
      have l100 : 100 * cs.length ≤ 20000 := by omega
      exact ⟨_, rfl, q F fs H' (fun b o e => r1 b o (ne_of_none e hF) (s12 _ _ e)) hF hf hfs cf (by omega)⟩
end
end Ph
set_option linter.all false
set_option maxRecDepth 100000
set_option maxHeartbeats 40000000
set_option exponentiation.threshold 500
namespace Ph
open PySem PySem.Spec PyProof.Rows L2 LamX
open C8 (pss_cut)
/-! ### plans that the law makes -/
def Bn.s1 : Bn → Kd
  | .meet => .ln | _ => .pt
def Bn.s2 : Bn → Kd
  | .meet => .ln | .foot => .ln | .mirror => .ln | .along => .ln | .upright => .ln | _ => .pt
/-- what a step names is made ahead, of the right sort -/
def Good (pl : Pl) : Stp → Prop
  | .free => True
  | .on l => l ∈ knownN pl .ln
  | .round c => c ∈ knownN pl .ci
  | .turn p q k => p ∈ knownN pl .pt ∧ q ∈ knownN pl .pt ∧ 1 ≤ k ∧ k ≤ 3
  | .other l c p => l ∈ knownN pl .ln ∧ c ∈ knownN pl .ci ∧ p ∈ knownN pl .pt
  | .two b x y => x ∈ knownN pl b.s1 ∧ y ∈ knownN pl b.s2
/-- weights and ways of the names, the newest first -/
abbrev Wts := List (Str × Nat × Option Nat)
def wLook : Wts → Str → Option (Nat × Option Nat)
  | [], _ => none
  | (x, e) :: r, y => if y = x then some e else wLook r y
def wOf (W : Wts) (y : Str) : Nat := ((wLook W y).map (·.1)).getD 0
def yOf (W : Wts) (y : Str) : Nat := ((wLook W y).bind (·.2)).getD 0
def weigh (W : Wts) : Stp → Nat
  | .free => if W.length > 1 then 1 else 0
  | .on l => wOf W l + yOf W l + 2
  | .round c => wOf W c + yOf W c + 2
  | .turn p q _ => wOf W p + wOf W q
  | .other l c p => 2 * wOf W l + wOf W c + wOf W p
  | .two .foot p l => wOf W p + 2 * wOf W l
  | .two .mirror p l => wOf W p + 2 * wOf W l
  | .two .along p l => wOf W p + yOf W l
  | .two .upright p l => wOf W p + yOf W l
  | .two _ x y => wOf W x + wOf W y
def wayW (W : Wts) : Stp → Option Nat
  | .two .line p q => some (wOf W p + wOf W q)
  | .two .along _ l => some (yOf W l)
  | .two .upright _ l => some (yOf W l)
  | _ => none
def addW (W : Wts) (s : Str × Stp) : Wts := (s.1, weigh W s.2, wayW W s.2) :: W
def wts (pl : Pl) : Wts := pl.foldl addW []
theorem wts_snoc (pl : Pl) (s : Str × Stp) : wts (pl ++ [s]) = addW (wts pl) s := by
  unfold wts
  rw [List.foldl_append]
  rfl
structure GenOk (pl : Pl) : Prop where
  nd : pl.names.Nodup
  so : ∀ x ∈ pl.names, PyData.strOk x = true
  good : ∀ (i : Nat) (x : Str) (s : Stp), pl[i]? = some (x, s) → Good (pl.take i) s ∧ weigh (wts (pl.take i)) s ≤ 12
  free2 : ∀ (i : Nat) (x : Str) (s : Stp), i < 2 → pl[i]? = some (x, s) → s = .free
theorem known_sub {pl : Pl} {k : Kd} {x : Str} (h : x ∈ knownN pl k) : x ∈ pl.names := by
  obtain ⟨s, h1, _⟩ := mem_known.mp h
  exact List.mem_map.mpr ⟨(x, s), h1, rfl⟩
theorem known_take {pl : Pl} {k : Kd} {x : Str} {i : Nat} (h : x ∈ knownN (pl.take i) k) : x ∈ knownN pl k := by
  obtain ⟨s, h1, h2⟩ := mem_known.mp h
  exact mem_known.mpr ⟨s, List.mem_of_mem_take h1, h2⟩
theorem Good.names {pl : Pl} {s : Stp} (g : Good pl s) : ∀ y ∈ s.of, y ∈ pl.names := by
  cases s with
  | free => intro y h; cases h
  | on l => intro y h; rw [show Stp.of (.on l) = [l] from rfl, List.mem_singleton] at h; subst h; exact known_sub g
  | round l => intro y h; rw [show Stp.of (.round l) = [l] from rfl, List.mem_singleton] at h; subst h; exact known_sub g
  | turn p q k =>
    intro y h
    simp only [Stp.of, List.mem_cons, List.not_mem_nil, or_false] at h
    rcases h with rfl | rfl
    · exact known_sub g.1
    · exact known_sub g.2.1
  | other l c p =>
    intro y h
    simp only [Stp.of, List.mem_cons, List.not_mem_nil, or_false] at h
    rcases h with rfl | rfl | rfl
    · exact known_sub g.1
    · exact known_sub g.2.1
    · exact known_sub g.2.2
  | two b p q =>
    intro y h
    simp only [Stp.of, List.mem_cons, List.not_mem_nil, or_false] at h
    rcases h with rfl | rfl
    · exact known_sub g.1
    · exact known_sub g.2
theorem GenOk.circ {pl : Pl} (g : GenOk pl) {c m q : Str} (h : (c, Stp.two .circle m q) ∈ pl) : c ∈ knownN pl .ci ∧ q ∈ knownN pl .pt := by
  refine ⟨mem_known.mpr ⟨_, h, rfl⟩, ?_⟩
  obtain ⟨i, hi⟩ := List.getElem?_of_mem h
  exact known_take (g.good i _ _ hi).1.2
/-! ### xs != [] -/
theorem shaped_strs : ∀ {ns : List Str}, (∀ x ∈ ns, PyData.strOk x = true) → PyData.canLayAll0 (ns.map PyData.str) = true ∧ PyData.depthAll (ns.map PyData.str) = 0
  | [], _ => ⟨rfl, rfl⟩
  | x :: r, h => by
    obtain ⟨h1, h2⟩ := shaped_strs (ns := r) fun y hy => h y (by simp [hy])
    refine ⟨?_, ?_⟩
    · simp only [List.map_cons, PyData.canLayAll0, PyData.canLay0, h x (by simp), h1, Bool.and_self]
    · simp only [List.map_cons, PyData.depthAll, PyData.depth, h2, Nat.max_self]
theorem dp_strs {K : PySem.W.Frag} {H : Hp} : ∀ ns : List Str, DpAll K H (ns.map V.str) (ns.map PyData.str)
  | [] => .nil
  | n :: r => .cons (.str n) (dp_strs r)
theorem shaped_of {ds : List PyData} (h1 : PyData.canLayAll0 ds = true) (h2 : PyData.depthAll ds ≤ 60) : SeqAt.shaped (.list ds) = true := by
  unfold SeqAt.shaped
  rw [Bool.and_eq_true]
  refine ⟨by simpa only [PyData.canLay0] using h1, decide_eq_true ?_⟩
  simp only [PyData.depth]
  omega
theorem ne_list {K : PySem.W.Frag} {σ : L2.St} {H : Hp} {te : TE} {R : Bool → Hp → Prop} (h : te σ H fun v H1 => ∃ a xs ds, v = .ref a ∧ H1 a = some (.lst xs) ∧ (∀ H2, Same H1 H2 → DpAll K H2 xs ds) ∧ PyData.canLayAll0 ds = true ∧ PyData.depthAll ds ≤ 60 ∧ xs.length = ds.length ∧ ∀ H2, Same H1 H2 → R (!xs.isEmpty) H2)
    (mon : ∀ Q Q' : VK, (∀ v H1, Q v H1 → Q' v H1) → te σ H Q → te σ H Q') : tTest (tOp (rNeD K) te (tLst tNil)) σ H R := by
  refine mon _ _ (fun v H1 hv => ?_) h
  obtain ⟨a, xs, ds, rfl, ha, hd, c1, c2, hl, q⟩ := hv
  refine ⟨Nat.zero_le _, fun p hp => ?_⟩
  have s1 := same_new (o := .lst []) hp
  refine ⟨_, _, .lst (SqL.of (s1 _ _ ha)) (hd _ s1), .lst (SqL.of upd_same) .nil, shaped_of c1 c2, rfl, _, rfl, ?_⟩
  have e : (!PyData.eqv (.list ds) (.list [])) = !xs.isEmpty := by
    cases ds with
    | nil =>
      rw [List.length_eq_zero_iff.mp hl]
      rfl
    | cons d r =>
      cases xs with
      | nil => cases hl
      | cons x t => rfl
  rw [e]
  exact q _ s1
theorem ne_strs {K : PySem.W.Frag} {σ : L2.St} {H : Hp} {i : Nat} {a : Addr} {ns : List Str} {R : Bool → Hp → Prop} (h : σ[i]? = some (some (.ref a))) (ha : H a = some (.lst (ns.map V.str))) (hz : ∀ x ∈ ns, PyData.strOk x = true) (q : ∀ H2, Same H H2 → R (!ns.isEmpty) H2) :
    tTest (tOp (rNeD K) (tVar i) (tLst tNil)) σ H R := by
  obtain ⟨c1, c2⟩ := shaped_strs hz
  refine ne_list ⟨_, h, a, _, _, rfl, ha, fun _ _ => dp_strs ns, c1, by omega, by simp, fun H2 s => ?_⟩ fun Q Q' hq ⟨v, e, z⟩ => ⟨v, e, hq _ _ z⟩
  rw [show (ns.map V.str).isEmpty = ns.isEmpty by cases ns <;> rfl]
  exact q H2 s
theorem dp_oths {K : PySem.W.Frag} {pl : Pl} (g : GenOk pl) {H : Hp} : ∀ {xs : List V}, (∀ x ∈ xs, OthA pl H x) → ∃ ds, (∀ H2, Same H H2 → DpAll K H2 xs ds) ∧ PyData.canLayAll0 ds = true ∧ PyData.depthAll ds ≤ 60 ∧ xs.length = ds.length
  | [], _ => ⟨[], fun _ _ => .nil, rfl, by simp [PyData.depthAll], rfl⟩
  | x :: r, h => by
    obtain ⟨ds, h1, h2, h3, h4⟩ := dp_oths (K := K) g (xs := r) fun y hy => h y (by simp [hy])
    obtain ⟨a, l, c, q, rfl, ha, ⟨s, hs, _⟩, m, hm⟩ := h x (by simp)
    have zl := g.so l (List.mem_map.mpr ⟨_, hs, rfl⟩)
    obtain ⟨hc, hq⟩ := g.circ hm
    have zc := g.so c (known_sub hc)
    have zq := g.so q (known_sub hq)
    refine ⟨.tuple [.str l, .str c, .str q] :: ds, fun H2 s2 => .cons (.tup (SqT.of (s2 _ _ ha)) (.cons (.str l) (.cons (.str c) (.cons (.str q) .nil)))) (h1 H2 s2), ?_, ?_, by simp [h4]⟩
    · simp only [PyData.canLayAll0, PyData.canLay0, zl, zc, zq, h2, Bool.and_self]
    · simp only [PyData.depthAll, PyData.depth]
      omega
end Ph
set_option linter.all false
set_option maxRecDepth 100000
set_option maxHeartbeats 40000000
set_option exponentiation.threshold 500
namespace Ph
open PySem PySem.Spec PyProof.Rows L2 LamX
open C8 (pss_cut)
def wordsS : List Str := ["on", "round", "meet", "middle", "foot", "mirror", "turn", "other", "line", "line", "along", "upright", "circle", "free"]
theorem kd_words : ∀ i : Nat, i < 3 → (("PLC" : Str).cps[i]?).map (fun c => (⟨#[c]⟩ : Str)) = (([Kd.pt, .ln, .ci] : List Kd)[i]?).map Kd.word := by decide +kernel
/-- the plan's list while the law makes it -/
def PlL (pl : Pl) (a : Addr) (H : Hp) : Prop := ∃ vs, H a = some (.lst vs) ∧ Each StA pl H vs
theorem PlL.b {pl : Pl} {a : Addr} {H : Hp} (h : PlL pl a H) : PlB pl H (.ref a) := let ⟨vs, h1, h2⟩ := h; ⟨a, vs, rfl, .inl h1, h2⟩
theorem PlL.kp {pl : Pl} {a D C : Addr} {H H' : Hp} (h : PlL pl a H) (d : Deck D C H) (n1 : a ≠ D) (n2 : a ≠ C) (k : KpD D C H H') : PlL pl a H' := let ⟨vs, h1, h2⟩ := h; ⟨vs, k _ _ n1 n2 h1, h2.sameI (fun _ => mi_st) (k.immI d)⟩
theorem ret_tup {te : TA} {D : Ends} {σ : L2.St} {H : Hp} (h : te σ H fun xs H1 => xs.length ≤ sizeLine ∧ ∀ p, H1 p = none → D.rt (.ref p) (upd H1 p (.tup xs))) : tRet (tTup te) D σ H := h
section
variable {P : Program} {w : World} {K : PySem.W.Frag} {mg : Str → Option Value} {base : Heap} {CE CN CR : Addr}
abbrev s__law_some_step : Stmt := top 88
theorem sc__law_some_step : FnScope ["_law_deck_here", "_law_plan_here", "_law_name", "_law_points", "_law_lines", "_law_circles", "_law_sort", "_law_word", "_law_p", "_law_o"] ["_law_deck_here", "_law_plan_here", "_law_name"] (defScope s__law_some_step) := ⟨rfl, rfl, rfl, by decide +kernel, rfl, by decide +kernel, by decide +kernel⟩
def spSome : Sp := fun vs H Q _ => ∃ (D C L : Addr) (pl : Pl) (x : Str), vs = [.ref D, .ref L, .str x] ∧ L ≠ D ∧ L ≠ C ∧ PlL pl L H ∧ GenOk pl ∧ pl.length ≤ 100 ∧ 2 ≤ (knownN pl .pt).length ∧ Deck D C H ∧
  ∀ v s H', KpD D C H H' → Deck D C H' → StA (x, s) H' v → Good pl s → Q v H'
theorem ok__law_some_step (B : Bl mg) (c__law_draw : Cal P w K mg base CX0 1 "_law_draw" ["_law_deck_here", "_law_many_here"] spDraw) (c__law_known : Cal P w K mg base CX0 1 "_law_known" ["_law_plan_here", "_law_sort"] spKnown) (c__law_two : Cal P w K mg base CX0 2 "_law_two" ["_law_deck_here", "_law_some"] spTwo)
    (c__law_pick : Cal P w K mg base CX0 2 "_law_pick" ["_law_deck_here", "_law_some"] (spPick K)) (c__law_others : Cal P w K mg base CX0 1 "_law_others" ["_law_plan_here"] spOthers) (F : FnAt K mg "_law_some_step" s__law_some_step) :
    Cal P w K mg base CX0 3 "_law_some_step" ["_law_deck_here", "_law_plan_here", "_law_name"] spSome := by
  refine Cal.of0 F sc__law_some_step (fun _ _ _ _ _ _ us hl => match us, hl with | [_, _, _], _ => rfl) (fun vs H Q E h => ?_) (fun f cdv A outer s H vs Q E hr h => ?_)
  · obtain ⟨D, C, L, pl, x, rfl, _⟩ := h
    rfl
  · obtain ⟨D, C, L, pl, x, rfl, n1, n2, hL, gok, hl, h2, dk, k⟩ := h
    have hu : (A.deeper (envOfC "_law_some_step" (defScope s__law_some_step) s.heap.objs.size f cdv)).units + 64 < cLine := by
      have := hr.un
      omega
    refine ⟨_, (pss_cons (ps_asg (pe_lc (own := [("_law_sort", 6)]) (g := gName 6) (te := tCall spKnown [] E0 (tCons (tVar 1) (tCons (tVar 6) tNil))) (by rfl) sc__law_some_step.nd (pi_str pe_str) (blkOk_by (own := [("_law_sort", 6)]) (N := ["_law_deck_here", "_law_plan_here", "_law_name", "_law_points", "_law_lines", "_law_circles", "_law_sort", "_law_word", "_law_p", "_law_o"]) (sc := defScope s__law_some_step) (by decide +kernel)) (fun _ _ _ _ _ => (pg_name (i := 6) sc__law_some_step.nd rfl (by first | exact Or.inl rfl | exact Or.inr rfl))) (fun _ _ _ _ _ => pts_nil) (fun _ _ _ _ _ => (pe_c c__law_known (hr.mono (by omega)) (pa_cons (pv 1) (pa_cons (pv 6) pa_nil))))) (pg_lst rfl (pgs_cons (pg_name (i := 3) sc__law_some_step.nd rfl (by first | exact Or.inl rfl | exact Or.inr rfl)) (pgs_cons (pg_name (i := 4) sc__law_some_step.nd rfl (by first | exact Or.inl rfl | exact Or.inr rfl)) (pgs_cons (pg_name (i := 5) sc__law_some_step.nd rfl (by first | exact Or.inl rfl | exact Or.inr rfl)) pgs_nil)))))
      (pss_cons (ps_set (i := 7) sc__law_some_step.nd rfl (by first | exact Or.inl rfl | exact Or.inr rfl) (pe_ix ix_list (pe_lst (pa_cons pe_str (pa_cons pe_str (pa_cons pe_str (pa_cons pe_str (pa_cons pe_str (pa_cons pe_str (pa_cons pe_str (pa_cons pe_str (pa_cons pe_str (pa_cons pe_str (pa_cons pe_str (pa_cons pe_str (pa_cons pe_str (pa_cons pe_str pa_nil))))))))))))))) (pe_c c__law_draw (hr.mono (by omega)) (pa_cons (pv 0) (pa_cons pe_int pa_nil))) (fun _ _ => rfl)))
      (pss_cons (ps_asg (pe_c c__law_two (hr.mono (by omega)) (pa_cons (pv 0) (pa_cons (pv 3) pa_nil))) (pg_tup rfl (pgs_cons (pg_name (i := 8) sc__law_some_step.nd rfl (by first | exact Or.inl rfl | exact Or.inr rfl)) (pgs_cons (pg_name (i := 9) sc__law_some_step.nd rfl (by first | exact Or.inl rfl | exact Or.inr rfl)) pgs_nil))))
      (pss_cons (ps_if (pt_cmpR op_eq (pv 7) pe_str (by first | exact nomark _ | rfl)) (pss_one (ps_ret (pe_tup (pa_cons (pv 7) (pa_cons (pv 2) pa_nil))))) pss_nil)
      (pss_cut (ps_if (PW.pt (pw_and (pt_cmpR op_eq (pv 7) pe_str (by first | exact nomark _ | rfl)) (pw_and1 (pt_cmpR (op_neD hu) (pv 4) (pe_lst pa_nil) (by first | exact nomark _ | rfl))))) (pss_one (ps_ret (pe_tup (pa_cons (pv 7) (pa_cons (pv 2) (pa_cons (pe_c c__law_pick (hr.mono (by omega)) (pa_cons (pv 0) (pa_cons (pv 4) pa_nil))) pa_nil)))))) pss_nil)
      (pss_cut (ps_if (PW.pt (pw_and (pt_cmpR op_eq (pv 7) pe_str (by first | exact nomark _ | rfl)) (pw_and1 (pt_cmpR (op_neD hu) (pv 5) (pe_lst pa_nil) (by first | exact nomark _ | rfl))))) (pss_one (ps_ret (pe_tup (pa_cons (pv 7) (pa_cons (pv 2) (pa_cons (pe_c c__law_pick (hr.mono (by omega)) (pa_cons (pv 0) (pa_cons (pv 5) pa_nil))) pa_nil)))))) pss_nil)
      (pss_cut (ps_if (PW.pt (pw_and (pt_cmpR op_eq (pv 7) pe_str (by first | exact nomark _ | rfl)) (pw_and1 (pt_cmpR op_gt (pe_callB call_len_seq (by rfl) B.len (by decide +kernel) (pa_cons (pv 4) pa_nil)) pe_int (by first | exact nomark _ | rfl))))) (pss_one (ps_ret (pe_op op_catT (pe_tup (pa_cons (pv 7) (pa_cons (pv 2) pa_nil))) (pe_c c__law_two (hr.mono (by omega)) (pa_cons (pv 0) (pa_cons (pv 4) pa_nil)))))) pss_nil)
      (pss_cut (ps_if (PW.pt (pw_and (pt_cmpR op_in_seq (pv 7) (pe_tup (pa_cons pe_str (pa_cons pe_str (pa_cons pe_str (pa_cons pe_str pa_nil))))) (by first | exact nomark _ | rfl)) (pw_and1 (pt_cmpR (op_neD hu) (pv 4) (pe_lst pa_nil) (by first | exact nomark _ | rfl))))) (pss_one (ps_ret (pe_tup (pa_cons (pv 7) (pa_cons (pv 2) (pa_cons (pv 8) (pa_cons (pe_c c__law_pick (hr.mono (by omega)) (pa_cons (pv 0) (pa_cons (pv 4) pa_nil))) pa_nil))))))) pss_nil)
      (pss_cons (ps_if (pt_cmpR op_eq (pv 7) pe_str (by first | exact nomark _ | rfl)) (pss_one (ps_ret (pe_tup (pa_cons (pv 7) (pa_cons (pv 2) (pa_cons (pv 8) (pa_cons (pv 9) (pa_cons (pe_op op_add pe_int (pe_c c__law_draw (hr.mono (by omega)) (pa_cons (pv 0) (pa_cons pe_int pa_nil)))) pa_nil)))))))) pss_nil)
      (pss_cut (ps_if (PW.pt (pw_and (pt_cmpR op_eq (pv 7) pe_str (by first | exact nomark _ | rfl)) (pw_and1 (pt_cmpR (op_neD hu) (pe_c c__law_others (hr.mono (by omega)) (pa_cons (pv 1) pa_nil)) (pe_lst pa_nil) (by first | exact nomark _ | rfl))))) (pss_one (ps_ret (pe_op op_catT (pe_tup (pa_cons (pv 7) (pa_cons (pv 2) pa_nil))) (pe_c c__law_pick (hr.mono (by omega)) (pa_cons (pv 0) (pa_cons (pe_c c__law_others (hr.mono (by omega)) (pa_cons (pv 1) pa_nil)) pa_nil)))))) pss_nil)
      (pss_one (ps_ret (pe_tup (pa_cons (pe_ifExp (pt_cmpR op_in_seq (pv 7) (pe_tup (pa_cons pe_str (pa_cons pe_str pa_nil))) (by first | exact nomark _ | rfl)) (pv 7) pe_str) (pa_cons (pv 2) (pa_cons (pv 8) (pa_cons (pv 9) pa_nil))))))))))))))))), ?_⟩
    refine ⟨_, rfl, fun N hN => ?_⟩
    refine lc_it (walk_str (z := "PLC")) (fun i Hx => Same H Hx ∧ ∃ ls : List Addr, ls.length = i ∧ Hx N = some (.lst (ls.map V.ref)) ∧ ∀ (j : Nat) a kd, ls[j]? = some a → ([Kd.pt, .ln, .ci] : List Kd)[j]? = some kd → H a = none ∧ Hx a = some (.lst ((knownN pl kd).map V.str)) ∧ a ≠ N) ⟨same_new hN, [], rfl, upd_same, fun j a kd e => by cases e⟩ (fun _ _ _ _ => True.intro) (fun i z Hx Hy li h y => ?_) fun Hx h => ?_
    · obtain ⟨rfl, c, hc, rfl⟩ := y
      obtain ⟨s1, ls, hl1, hN1, hk⟩ := h
      have l3 : i < 3 := li
      have kw := kd_words i l3
      rw [hc] at kw
      obtain ⟨kd, hkd, ew⟩ : ∃ kd, ([Kd.pt, .ln, .ci] : List Kd)[i]? = some kd ∧ (⟨#[c]⟩ : Str) = kd.word := by
        cases e : ([Kd.pt, .ln, .ci] : List Kd)[i]? with
        | none =>
          rw [e] at kw
          cases kw
        | some kd =>
          rw [e] at kw
          exact ⟨kd, rfl, Option.some.inj kw⟩
      refine ⟨rfl, ?_⟩
      refine ⟨_, rfl, _, rfl, .ref L, pl, kd, by rw [ew]; rfl, mo_plB _ _ _ s1 hL.b, hl, fun p H3 s3 hp hp3 => ?_⟩
      have nN : p ≠ N := Ne.symm (ne_of_none hN1 hp)
      refine ⟨_, s3 _ _ hN1, by rw [List.length_map, sizeLine_eq]; omega, same_put (s1.trans s3) hN, ls ++ [p], by simp [hl1], by rw [upd_same, List.map_append]; rfl, fun j a kd2 ha hk2 => ?_⟩
      by_cases lj : j < ls.length
      · rw [List.getElem?_append_left lj] at ha
        obtain ⟨q1, q2, q3⟩ := hk j a kd2 ha hk2
        exact ⟨q1, by rw [upd_ne q3]; exact s3 _ _ q2, q3⟩
      · rw [List.getElem?_append_right (by omega)] at ha
        have j0 : j = ls.length := by
          have := (List.getElem?_eq_some_iff.mp ha).1
          simp at this
          omega
        subst j0
        rw [Nat.sub_self] at ha
        cases ha
        rw [hl1, hkd] at hk2
        cases hk2
        exact ⟨s1.free hp, by rw [upd_ne nN]; exact hp3, nN⟩
    obtain ⟨s1, ls, hl1, hN1, hk⟩ := h
    obtain ⟨a1, a2, a3, rfl⟩ : ∃ a1 a2 a3, ls = [a1, a2, a3] := match ls, hl1 with | [a1, a2, a3], _ => ⟨a1, a2, a3, rfl⟩
    obtain ⟨f1, p1, _⟩ := hk 0 a1 .pt rfl rfl
    obtain ⟨f2, p2, _⟩ := hk 1 a2 .ln rfl rfl
    obtain ⟨f3, p3, _⟩ := hk 2 a3 .ci rfl rfl
    refine ⟨N, _, rfl, SqL.of hN1, rfl, ?_⟩
    refine ⟨_, _, rfl, _, _, rfl, _, _, rfl, rfl, ?_⟩
    clear hk hN1 hl1
    have dk1 := dk.same s1
    have kp1 : KpD D C H Hx := KpD.of s1
    obtain ⟨m1, m1'⟩ := dk.neD f1
    obtain ⟨m2, m2'⟩ := dk.neD f2
    obtain ⟨m3, m3'⟩ := dk.neD f3
    refine ⟨by show 14 ≤ sizeLine; decide, fun W hW => ?_⟩
    obtain ⟨mW, mW'⟩ := dk1.neD hW
    have sW := same_new (o := .lst (wordsS.map V.str)) hW
    refine ⟨_, rfl, D, C, 14, rfl, by decide, by decide, dk1.same sW, fun k1 H2 b1 b2 kp2 dk2 => ?_⟩
    obtain ⟨iw, rfl⟩ := Int.eq_ofNat_of_zero_le b1
    obtain ⟨wd, hwd⟩ : ∃ wd, wordsS[iw]? = some wd := ⟨_, List.getElem?_eq_getElem (show iw < wordsS.length by show iw < 14; omega)⟩
    have kp02 := (kp1.trans (KpD.of sW)).trans kp2
    have kpx2 := (KpD.of (D := D) (C := C) sW).trans kp2
    refine ⟨W, wordsS.map V.str, _, .str wd, rfl, rfl, SqL.of (kp2 _ _ mW mW' upd_same), atI_nat (by rw [List.getElem?_map, hwd]; rfl), ?_⟩
    refine gN ?_
    dsimp only
    have lk : ∀ kd, (knownN pl kd).length ≤ 100 := fun kd => by
      unfold knownN
      rw [List.length_map]
      exact Nat.le_trans (List.length_filter_le _ _) hl
    refine ⟨_, rfl, _, rfl, D, C, a1, knownN pl .pt, rfl, m1, m1', kpx2 _ _ m1 m1' p1, h2, by have := lk .pt; omega, dk2, fun t p o H3 kp3 dk3 _ ht2 hp ho => ⟨t, _, rfl, SqT.of ht2, rfl, _, _, rfl, _, _, rfl, rfl, ?_⟩⟩
    have kpH : KpD D C H H3 := kp02.trans kp3
    have kpx := kpx2.trans kp3
    have q2 : ∀ H', KpD D C H3 H' → H' a2 = some (.lst ((knownN pl .ln).map V.str)) := fun H' z => z _ _ m2 m2' (kpx _ _ m2 m2' p2)
    have q3 : ∀ H', KpD D C H3 H' → H' a3 = some (.lst ((knownN pl .ci).map V.str)) := fun H' z => z _ _ m3 m3' (kpx _ _ m3 m3' p3)
    have qL : ∀ H', KpD D C H3 H' → PlL pl L H' := fun H' z => hL.kp dk n1 n2 (kpH.trans z)
    clear p1 p2 p3 kpx2 kp02 sW hW kp2 mW mW' hN ht2 kp3 dk1 kp1 s1 dk2
    have fin : ∀ (s : Stp) (H' : Hp), KpD D C H3 H' → Deck D C H' → Good pl s → ∀ t, H' t = none → Q (.ref t) (upd H' t (.tup (stV (x, s)))) := fun s H' z d g t ht => k _ s _ ((kpH.trans z).new ht) (d.same (same_new ht)) ⟨t, rfl, upd_same⟩ g
    have name_of : ∀ {kd : Kd} {i : Nat} {y : V}, ((knownN pl kd).map V.str)[i]? = some y → ∃ l, y = .str l ∧ l ∈ knownN pl kd := fun {kd i y} h => by
      rw [List.getElem?_map] at h
      cases e : (knownN pl kd)[i]? with
      | none => rw [e] at h; cases h
      | some l =>
        rw [e] at h
        exact ⟨l, (Option.some.inj h).symm, List.mem_of_getElem? e⟩
    have so : ∀ kd, ∀ y ∈ knownN pl kd, PyData.strOk y = true := fun kd y hy => gok.so y (known_sub hy)
    have kr : KpD D C H3 H3 := KpD.refl
    -- free
    refine ⟨_, rfl, rfl, _, rfl, ?_⟩
    by_cases w0 : wd = "free"
    · subst w0
      exact yes (strYes rfl) ⟨_, rfl, _, rfl, by show 2 ≤ sizeLine; decide, fun t ht => fin .free H3 kr dk3 trivial t ht⟩
    refine no (strNo w0) ?_
    -- on
    refine ⟨fun σ' H' => σ' = [some (.ref D), some (.ref L), some (.str x), some (.ref a1), some (.ref a2), some (.ref a3), none, some (.str wd), some (.str p), some (.str o)] ∧ KpD D C H3 H' ∧ Deck D C H', ?_, ?_⟩
    · refine ⟨_, rfl, rfl, _, rfl, ?_⟩
      by_cases w1 : wd = "on"
      · subst w1
        refine yes (strYes rfl) ?_
        refine ne_strs (i := 4) rfl (q2 _ kr) (so _) fun H4 s4 => ?_
        have kp4 := KpD.of (D := D) (C := C) s4
        have dk4 := dk3.same s4
        by_cases he : (knownN pl .ln).isEmpty = true
        · exact no (by rw [he]; rfl) ⟨rfl, kp4, dk4⟩
        · refine yes (by simpa using he) ?_
          have l0 : 0 < (knownN pl .ln).length := by
            cases h : knownN pl .ln with
            | nil => rw [h] at he; exact absurd rfl he
            | cons _ _ => simp
          refine ⟨_, rfl, _, rfl, _, rfl, _, rfl, D, C, a2, _, rfl, m2, m2', q2 _ kp4, by rw [List.length_map]; exact l0, by rw [List.length_map]; have := lk .ln; omega, dk4, fun i y H5 hy kp5 dk5 => ?_⟩
          obtain ⟨l, rfl, hlm⟩ := name_of hy
          exact ⟨by show 3 ≤ sizeLine; decide, fun t ht => fin (.on l) H5 (kp4.trans kp5) dk5 hlm t ht⟩
      · exact no (strNo w1) ⟨rfl, kr, dk3⟩
    rintro σ' H4 ⟨rfl, kp4, dk4⟩
    -- round
    refine ⟨fun σ' H' => σ' = [some (.ref D), some (.ref L), some (.str x), some (.ref a1), some (.ref a2), some (.ref a3), none, some (.str wd), some (.str p), some (.str o)] ∧ KpD D C H3 H' ∧ Deck D C H', ?_, ?_⟩
    · refine ⟨_, rfl, rfl, _, rfl, ?_⟩
      by_cases w1 : wd = "round"
      · subst w1
        refine yes (strYes rfl) ?_
        refine ne_strs (i := 5) rfl (q3 _ kp4) (so _) fun H5 s5 => ?_
        have kp5 := kp4.trans (KpD.of s5)
        have dk5 := dk4.same s5
        by_cases he : (knownN pl .ci).isEmpty = true
        · exact no (by rw [he]; rfl) ⟨rfl, kp5, dk5⟩
        · refine yes (by simpa using he) ?_
          have l0 : 0 < (knownN pl .ci).length := by
            cases h : knownN pl .ci with
            | nil => rw [h] at he; exact absurd rfl he
            | cons _ _ => simp
          refine ⟨_, rfl, _, rfl, _, rfl, _, rfl, D, C, a3, _, rfl, m3, m3', q3 _ kp5, by rw [List.length_map]; exact l0, by rw [List.length_map]; have := lk .ci; omega, dk5, fun i y H6 hy kp6 dk6 => ?_⟩
          obtain ⟨l, rfl, hlm⟩ := name_of hy
          exact ⟨by show 3 ≤ sizeLine; decide, fun t ht => fin (.round l) H6 (kp5.trans kp6) dk6 hlm t ht⟩
      · exact no (strNo w1) ⟨rfl, kp4, dk4⟩
    clear kp4 dk4 H4
    rintro σ' H4 ⟨rfl, kp4, dk4⟩
    -- meet
    refine ⟨fun σ' H' => σ' = [some (.ref D), some (.ref L), some (.str x), some (.ref a1), some (.ref a2), some (.ref a3), none, some (.str wd), some (.str p), some (.str o)] ∧ KpD D C H3 H' ∧ Deck D C H', ?_, ?_⟩
    · refine ⟨_, rfl, rfl, _, rfl, ?_⟩
      by_cases w1 : wd = "meet"
      · subst w1
        refine yes (strYes rfl) ?_
        refine ⟨_, rfl, a2, _, rfl, .inl (SqL.of (q2 _ kp4)), _, _, rfl, rfl, _, rfl, ?_⟩
        by_cases he : 1 < (knownN pl .ln).length
        · refine yes (by simp; omega) ?_
          refine ⟨_, rfl, _, rfl, by show 2 ≤ sizeLine; decide, fun t1 ht1 => ?_⟩
          have s5 := same_new (o := .tup [.str "meet", .str x]) ht1
          obtain ⟨mt, mt'⟩ := dk4.neD ht1
          refine ⟨_, rfl, _, rfl, D, C, a2, _, rfl, m2, m2', q2 _ (kp4.trans (KpD.of s5)), he, by have := lk .ln; omega, dk4.same s5, fun t2 y1 y2 H6 kp6 dk6 _ ht2 hy1 hy2 => ?_⟩
          exact ⟨t1, t2, _, _, rfl, rfl, SqT.of (kp6 _ _ mt mt' upd_same), SqT.of ht2, (fun z => by cases z), (by show 2 + 2 ≤ sizeLine; decide), (fun z => by cases z), fun _ t ht => fin (.two .meet y1 y2) H6 ((kp4.trans (KpD.of s5)).trans kp6) dk6 ⟨hy1, hy2⟩ t ht⟩
        · exact no (by simp; omega) ⟨rfl, kp4, dk4⟩
      · exact no (strNo w1) ⟨rfl, kp4, dk4⟩
    clear kp4 dk4 H4
    rintro σ' H4 ⟨rfl, kp4, dk4⟩
    -- foot, mirror, along, upright
    refine ⟨fun σ' H' => σ' = [some (.ref D), some (.ref L), some (.str x), some (.ref a1), some (.ref a2), some (.ref a3), none, some (.str wd), some (.str p), some (.str o)] ∧ KpD D C H3 H' ∧ Deck D C H', ?_, ?_⟩
    · refine ⟨_, rfl, by show 4 ≤ sizeLine; decide, fun t1 ht1 => ?_⟩
      have s5 := same_new (o := .tup [.str "foot", .str "mirror", .str "along", .str "upright"]) ht1
      have kp5 := kp4.trans (KpD.of (D := D) (C := C) s5)
      have dk5 := dk4.same s5
      refine ⟨t1, [.str "foot", .str "mirror", .str "along", .str "upright"], rfl, .inr (SqT.of upd_same), rfl, rfl, _, rfl, ?_⟩
      cases hin : (if false = true then !inV (V.str wd) [.str "foot", .str "mirror", .str "along", .str "upright"] else inV (V.str wd) [.str "foot", .str "mirror", .str "along", .str "upright"]) with
      | false => exact no rfl ⟨rfl, kp5, dk5⟩
      | true =>
        refine yes rfl ?_
        obtain ⟨b, rfl, hb⟩ : ∃ b : Bn, wd = b.word ∧ b.s1 = .pt ∧ b.s2 = .ln := by
          have hin : inV (V.str wd) [.str "foot", .str "mirror", .str "along", .str "upright"] = true := hin
          unfold inV at hin
          simp only [List.any_cons, List.any_nil, Bool.or_false, Bool.or_eq_true] at hin
          have eqs : ∀ {a b : Str}, eqV (.str a) (.str b) = true → a = b := fun {a b} h => of_decide_eq_true h
          rcases hin with h | h | h | h
          · exact ⟨.foot, (eqs h).symm, rfl, rfl⟩
          · exact ⟨.mirror, (eqs h).symm, rfl, rfl⟩
          · exact ⟨.along, (eqs h).symm, rfl, rfl⟩
          · exact ⟨.upright, (eqs h).symm, rfl, rfl⟩
        refine ne_strs (i := 4) rfl (q2 _ kp5) (so _) fun H6 s6 => ?_
        have kp6 := kp5.trans (KpD.of s6)
        have dk6 := dk5.same s6
        by_cases he : (knownN pl .ln).isEmpty = true
        · exact no (by rw [he]; rfl) ⟨rfl, kp6, dk6⟩
        · refine yes (by simpa using he) ?_
          have l0 : 0 < (knownN pl .ln).length := by
            cases h : knownN pl .ln with
            | nil => rw [h] at he; exact absurd rfl he
            | cons _ _ => simp
          refine ⟨_, rfl, _, rfl, _, rfl, _, rfl, _, rfl, D, C, a2, _, rfl, m2, m2', q2 _ kp6, by rw [List.length_map]; exact l0, by rw [List.length_map]; have := lk .ln; omega, dk6, fun i y H7 hy kp7 dk7 => ?_⟩
          obtain ⟨l, rfl, hlm⟩ := name_of hy
          exact ⟨by show 4 ≤ sizeLine; decide, fun t ht => fin (.two b p l) H7 (kp6.trans kp7) dk7 ⟨by rw [hb.1]; exact hp, by rw [hb.2]; exact hlm⟩ t ht⟩
    clear kp4 dk4 H4
    rintro σ' H4 ⟨rfl, kp4, dk4⟩
    -- turn
    refine ⟨_, rfl, rfl, _, rfl, ?_⟩
    by_cases w1 : wd = "turn"
    · subst w1
      refine yes (strYes rfl) ?_
      refine ⟨_, rfl, _, rfl, _, rfl, _, rfl, _, rfl, D, C, 3, rfl, by decide, by decide, dk4, fun k5 H5 b5 c5 kp5 dk5 => ⟨_, _, rfl, rfl, ?_⟩⟩
      obtain ⟨j, rfl⟩ := Int.eq_ofNat_of_zero_le b5
      refine ⟨by show 5 ≤ sizeLine; decide, fun t ht => ?_⟩
      have := fin (.turn p o (1 + j)) H5 (kp4.trans kp5) dk5 ⟨hp, ho, by omega, by omega⟩ t ht
      rw [show stV (x, .turn p o (1 + j)) = [.str "turn", .str x, .str p, .str o, .int (1 + (j : Nat))] by
        show [V.str "turn", .str x, .str p, .str o, .int ((1 + j : Nat) : Int)] = _
        rw [Int.natCast_add]
        rfl] at this
      exact this
    refine no (strNo w1) ?_
    -- other
    refine ⟨fun σ' H' => σ' = [some (.ref D), some (.ref L), some (.str x), some (.ref a1), some (.ref a2), some (.ref a3), none, some (.str wd), some (.str p), some (.str o)] ∧ KpD D C H3 H' ∧ Deck D C H', ?_, ?_⟩
    · refine ⟨_, rfl, rfl, _, rfl, ?_⟩
      by_cases w2 : wd = "other"
      · subst w2
        refine yes (strYes rfl) ?_
        refine ne_list ⟨_, rfl, .ref L, pl, rfl, (qL _ kp4).b, hl, fun p1 xs H5 s5 hp1 hp2 hxs hxn hxl => ?_⟩ fun Q1 Q2 hq hh => ?_
        · obtain ⟨ds, z1, z2, z3, z4⟩ := dp_oths (K := K) gok hxs
          refine ⟨p1, xs, ds, rfl, hp2, z1, z2, z3, z4, fun H6 s6 => ?_⟩
          have kp6 := kp4.trans (KpD.of (s5.trans s6))
          have dk6 := dk4.same (s5.trans s6)
          by_cases he : xs.isEmpty = true
          · exact no (by rw [he]; rfl) ⟨rfl, kp6, dk6⟩
          refine yes (by simpa using he) ?_
          refine ⟨_, rfl, _, rfl, by show 2 ≤ sizeLine; decide, fun t1 ht1 => ?_⟩
          have s7 := same_new (o := .tup [.str "other", .str x]) ht1
          obtain ⟨mt, mt'⟩ := dk6.neD ht1
          have kp7 := kp6.trans (KpD.of (D := D) (C := C) s7)
          have dk7 := dk6.same s7
          have et1 : upd H6 t1 (.tup [.str "other", .str x]) t1 = some (.tup [.str "other", .str x]) := upd_same
          refine ⟨_, rfl, _, rfl, .ref L, pl, rfl, (qL _ kp7).b, hl, fun p2 ys H8 s8 hp3 hp4 hys hyn hyl => ?_⟩
          have kp8 := kp7.trans (KpD.of (D := D) (C := C) s8)
          have dk8 := dk7.same s8
          obtain ⟨mp, mp'⟩ := dk7.neD hp3
          have l0 : 0 < ys.length := by
            rw [hyn, ← hxn]
            cases xs with
            | nil => exact absurd rfl he
            | cons _ _ => simp
          refine ⟨D, C, p2, ys, rfl, mp, mp', hp4, l0, hyl, dk8, fun i y H9 hy kp9 dk9 => ?_⟩
          obtain ⟨a, l, c, q, rfl, ha, ⟨s, hs, hsk⟩, m, hm⟩ := mi_oth _ _ _ (kp9.immI dk8) (hys y (List.mem_of_getElem? hy))
          obtain ⟨gc, gq⟩ := gok.circ hm
          refine ⟨t1, a, _, _, rfl, rfl, SqT.of (kp9 _ _ mt mt' (s8 _ _ et1)), SqT.of ha, (fun z => by cases z), (by show 2 + 3 ≤ sizeLine; decide), (fun z => by cases z), fun _ t ht => fin (.other l c q) H9 (kp8.trans kp9) dk9 ⟨mem_known.mpr ⟨s, hs, hsk⟩, gc, gq⟩ t ht⟩
        · obtain ⟨v, e, v2, pl2, e2, hb, hl2, z⟩ := hh
          exact ⟨v, e, v2, pl2, e2, hb, hl2, fun p1 xs H5 s5 a1 a2 a3 a4 a5 => hq _ _ (z p1 xs H5 s5 a1 a2 a3 a4 a5)⟩
      · exact no (strNo w2) ⟨rfl, kp4, dk4⟩
    clear kp4 dk4 H4
    rintro σ' H4 ⟨rfl, kp4, dk4⟩
    -- else
    refine ⟨_, rfl, by show 2 ≤ sizeLine; decide, fun t1 ht1 => ?_⟩
    have s5 := same_new (o := .tup [.str "middle", .str "circle"]) ht1
    have kp5 := kp4.trans (KpD.of (D := D) (C := C) s5)
    have dk5 := dk4.same s5
    refine ⟨t1, [.str "middle", .str "circle"], rfl, .inr (SqT.of upd_same), rfl, rfl, _, rfl, ?_⟩
    cases hin : (if false = true then !inV (V.str wd) [.str "middle", .str "circle"] else inV (V.str wd) [.str "middle", .str "circle"]) with
    | false => exact no rfl ⟨_, rfl, _, rfl, _, rfl, by show 4 ≤ sizeLine; decide, fun t ht => fin (.two .line p o) _ kp5 dk5 ⟨hp, ho⟩ t ht⟩
    | true =>
      refine yes rfl ⟨_, rfl, _, rfl, _, rfl, _, rfl, by show 4 ≤ sizeLine; decide, fun t ht => ?_⟩
      have hin : inV (V.str wd) [.str "middle", .str "circle"] = true := hin
      unfold inV at hin
      simp only [List.any_cons, List.any_nil, Bool.or_false, Bool.or_eq_true] at hin
      have eqs : ∀ {a b : Str}, eqV (.str a) (.str b) = true → a = b := fun {a b} h => of_decide_eq_true h
      rcases hin with h | h
      · have e := eqs h
        subst e
        exact fin (.two .middle p o) _ kp5 dk5 ⟨hp, ho⟩ t ht
      · have e := eqs h
        subst e
        exact fin (.two .circle p o) _ kp5 dk5 ⟨hp, ho⟩ t ht
end
end Ph
set_option linter.all false
set_option maxRecDepth 100000
set_option maxHeartbeats 40000000
set_option exponentiation.threshold 500
namespace Ph
open PySem PySem.Spec PyProof.Rows L2 LamX
open C8 (pss_cut)
/-- the dicts of weights and of ways -/
structure WtK (W : Wts) (k1 k2 : List (Key × V)) : Prop where
  len : k1.length = W.length
  few : k2.length ≤ W.length
  w : ∀ y, valV k1 (.inr y) = (wLook W y).map fun e => V.int (e.1 : Nat)
  y : ∀ y, valV k2 (.inr y) = ((wLook W y).bind (·.2)).map fun n => V.int (n : Nat)
/-- what weigh reads of them -/
structure WtR (W : Wts) (k1 k2 : List (Key × V)) : Prop where
  len : k1.length = W.length
  w : ∀ y e, wLook W y = some e → valV k1 (.inr y) = some (.int (e.1 : Nat))
  y : ∀ y e, wLook W y = some e → valV k2 (.inr y) = e.2.map fun n => V.int (n : Nat)
theorem WtK.r {W : Wts} {k1 k2 : List (Key × V)} (h : WtK W k1 k2) : WtR W k1 k2 := ⟨h.len, fun y e he => by rw [h.w, he]; rfl, fun y e he => by rw [h.y, he]; rfl⟩
theorem wLook_of {W : Wts} {y : Str} {e : Nat × Option Nat} (h : wLook W y = some e) : wOf W y = e.1 ∧ yOf W y = e.2.getD 0 := by
  unfold wOf yOf
  rw [h]
  exact ⟨rfl, rfl⟩
/-- all that a step names has a weight, and a way where it is asked -/
def WtFit (W : Wts) (s : Stp) : Prop := (∀ y ∈ s.of, ∃ e, wLook W y = some e) ∧ match s with
  | .two .along _ l => ∃ e n, wLook W l = some (e, some n)
  | .two .upright _ l => ∃ e n, wLook W l = some (e, some n)
  | _ => True
section
variable {P : Program} {w : World} {K : PySem.W.Frag} {mg : Str → Option Value} {base : Heap} {CE CN CR : Addr}
theorem in_two {σ : L2.St} {H : Hp} {i : Nat} {w u v : Str} {R : Bool → Hp → Prop} (h : σ[i]? = some (some (.str w))) (q : ∀ H2, Same H H2 → R (inV (.str w) [.str u, .str v]) H2) : tTest (tOp (L2.rIn K false) (tVar i) (tTup (tCons (tC (.str u)) (tCons (tC (.str v)) tNil)))) σ H R :=
  ⟨_, h, by show 2 ≤ sizeLine; decide, fun t ht => ⟨t, [.str u, .str v], rfl, .inr (SqT.of upd_same), rfl, rfl, _, rfl, q _ (same_new ht)⟩⟩
theorem bn_in1 : ∀ b : Bn, inV (.str b.word) [.str "on", .str "round"] = false := by
  intro b
  cases b <;> decide +kernel
theorem bn_in2 : ∀ b : Bn, inV (.str b.word) [.str "foot", .str "mirror"] = decide (b = .foot ∨ b = .mirror) := by
  intro b
  cases b <;> decide +kernel
theorem bn_in3 : ∀ b : Bn, inV (.str b.word) [.str "along", .str "upright"] = decide (b = .along ∨ b = .upright) := by
  intro b
  cases b <;> decide +kernel
theorem weigh_fm {W : Wts} {b : Bn} {p l : Str} (h : b = .foot ∨ b = .mirror) : weigh W (.two b p l) = wOf W p + 2 * wOf W l := by
  rcases h with rfl | rfl <;> rfl
theorem weigh_au {W : Wts} {b : Bn} {p l : Str} (h : b = .along ∨ b = .upright) : weigh W (.two b p l) = wOf W p + yOf W l := by
  rcases h with rfl | rfl <;> rfl
theorem weigh_el {W : Wts} {b : Bn} {p l : Str} (h : ¬ (b = .foot ∨ b = .mirror)) (h2 : ¬ (b = .along ∨ b = .upright)) : weigh W (.two b p l) = wOf W p + wOf W l := by
  cases b <;> simp_all [weigh]
abbrev s__law_weigh : Stmt := top 84
theorem sc__law_weigh : FnScope ["_law_weights", "_law_step", "_law_ways", "_law_word", "_law_parts", "_law_one"] ["_law_weights", "_law_step", "_law_ways"] (defScope s__law_weigh) := ⟨rfl, rfl, rfl, by decide +kernel, rfl, by decide +kernel, by decide +kernel⟩
def spWeigh : Sp := fun vs H Q _ => ∃ (a b : Addr) (v : V) (W : Wts) (k1 k2 : List (Key × V)) (x : Str) (s : Stp), vs = [.ref a, v, .ref b] ∧ H a = some (.dK k1) ∧ H b = some (.dK k2) ∧ WtR W k1 k2 ∧ StA (x, s) H v ∧ WtFit W s ∧ ∀ H', Same H H' → Q (.int (weigh W s : Nat)) H'
theorem ok__law_weigh (B : Bl mg) (Z : KitS K) (F : FnAt K mg "_law_weigh" s__law_weigh) : Cal P w K mg base CX0 1 "_law_weigh" ["_law_weights", "_law_step", "_law_ways"] spWeigh := by
  refine Cal.of0 F sc__law_weigh (fun _ _ _ _ _ _ us hl => match us, hl with | [_, _, _], _ => rfl) (fun vs H Q E h => ?_) (fun f cdv A outer s H vs Q E hr h => ?_)
  · obtain ⟨a, b, v, W, k1, k2, x, s, rfl, _⟩ := h
    rfl
  · obtain ⟨a, b, v, W, k1, k2, x, st, rfl, ha, hb, wk, hv, fit, k⟩ := h
    have hu : (A.deeper (envOfC "_law_weigh" (defScope s__law_weigh) s.heap.objs.size f cdv)).units + 1 < cLine := by
      have := hr.un
      omega
    refine ⟨_, (pss_cons (ps_par (i := 3) (j := 4) (by rfl) sc__law_weigh.nd rfl rfl (by decide) rfl rfl (pa_cons (pe_ix ix_tup (pv 1) pe_int (fun _ _ => rfl)) (pa_cons (pe_lc (own := [("_law_one", 5)]) (g := gName 5) (te := tDGet (tVar 0) (tVar 5)) (tt := tB (tCB (rIsi K) (tCons (tVar 5) (tCons (tC (.ty "str")) tNil)))) (by rfl) sc__law_weigh.nd (pi_tup (pe_slice sl_tupA (pv 1) (po_some pe_int) po_none)) (blkOk_by (own := [("_law_one", 5)]) (N := ["_law_weights", "_law_step", "_law_ways", "_law_word", "_law_parts", "_law_one"]) (sc := defScope s__law_weigh) (by decide +kernel)) (fun _ _ _ _ _ => (pg_name (i := 5) sc__law_weigh.nd rfl (by first | exact Or.inl rfl | exact Or.inr rfl))) (fun _ _ _ _ _ => (pts_one (pt_val (pe_callB call_isi (by rfl) B.isinstance (by decide +kernel) (pa_cons (pv 5) (pa_cons (pe_bltn (v := .ty "str") (by rfl) B.str (by decide +kernel) rfl) pa_nil)))))) (fun _ _ _ _ _ => (pe_dget hu (pv 0) (pv 5) (fun _ _ => rfl)))) pa_nil)) (by rfl))
      (pss_cons (ps_if (pt_cmpR op_eq (pv 3) pe_str (by first | exact nomark _ | rfl)) (pss_one (ps_ret (pe_callTy call_int1 (by rfl) B.int (by decide +kernel) (pa_cons (pe_cmpR op_gt (pe_callB call_lenD (by rfl) B.len (by decide +kernel) (pa_cons (pv 0) pa_nil)) pe_int (by first | exact nomark _ | rfl)) pa_nil)))) pss_nil)
      (pss_cons (ps_if (pt_cmpR op_in_seq (pv 3) (pe_tup (pa_cons pe_str (pa_cons pe_str pa_nil))) (by first | exact nomark _ | rfl)) (pss_one (ps_ret (pe_op op_add (pe_op op_add (pe_ix ix_list (pv 4) pe_int (fun _ _ => rfl)) (pe_dget2 hu (pv 2) (pe_ix ix_tup (pv 1) pe_int (fun _ _ => rfl)) pe_int ⟨by rfl, by rfl, by rfl, by rfl⟩)) pe_int))) pss_nil)
      (pss_cons (ps_if (pt_cmpR op_in_seq (pv 3) (pe_tup (pa_cons pe_str (pa_cons pe_str pa_nil))) (by first | exact nomark _ | rfl)) (pss_one (ps_ret (pe_op op_add (pe_ix ix_list (pv 4) pe_int (fun _ _ => rfl)) (pe_op op_mul pe_int (pe_ix ix_list (pv 4) pe_int (fun _ _ => rfl)))))) pss_nil)
      (pss_cons (ps_if (pt_cmpR op_eq (pv 3) pe_str (by first | exact nomark _ | rfl)) (pss_one (ps_ret (pe_op op_add (pe_op op_add (pe_op op_mul pe_int (pe_ix ix_list (pv 4) pe_int (fun _ _ => rfl))) (pe_ix ix_list (pv 4) pe_int (fun _ _ => rfl))) (pe_ix ix_list (pv 4) pe_int (fun _ _ => rfl))))) pss_nil)
      (pss_one (ps_ret (pe_op op_add (pe_ix ix_list (pv 4) pe_int (fun _ _ => rfl)) (pe_ifExp (pt_cmpR op_in_seq (pv 3) (pe_tup (pa_cons pe_str (pa_cons pe_str pa_nil))) (by first | exact nomark _ | rfl)) (pe_dget hu (pv 2) (pe_ix ix_tup (pv 1) pe_int (fun _ _ => rfl)) (fun _ _ => rfl)) (pe_ix ix_list (pv 4) pe_int (fun _ _ => rfl))))))))))), ?_⟩
    refine (eg_word (i := 1) rfl hv).run fun u H1 s1 e1 => ?_
    subst e1
    obtain ⟨av, rfl, hav⟩ := id hv
    have rest_eq : cutV (stV (x, st)) (some 2) none = st.rest := by
      rw [show (2 : Int) = ((2 : Nat) : Int) from rfl, cut_from]
      rfl
    refine ⟨_, rfl, 2, rfl, av, _, rfl, SqT.of (s1 _ _ hav), fun z => ?_, fun _ p hp => ?_⟩
    · have h2 := z.1
      rw [show (2 : Int) = ((2 : Nat) : Int) from rfl, HT.sIx_nat] at h2
      have h3 : 2 ≤ (stV (x, st)).length := by unfold stV; simp
      omega
    rw [rest_eq] at *
    have s2 := s1.trans (same_new (o := .tup st.rest) hp)
    have ep : upd H1 p (.tup st.rest) p = some (.tup st.rest) := upd_same
    generalize upd H1 p (.tup st.rest) = H2 at s2 ep
    refine ⟨p, rfl, ⟨_, SqT.of ep⟩, fun L hL => ?_⟩
    have lo3 : st.of.length ≤ 3 := by cases st <;> simp [Stp.of]
    refine lc_it (walk_tup (K := K)) (fun j Hy => Same H2 Hy ∧ Hy L = some (.lst ((st.of.take j).map fun y => V.int (wOf W y : Nat)))) ⟨same_new hL, upd_same⟩ (fun _ _ _ h => SqT.of (h.1 _ _ ep)) (fun j z Hy Hz lj h y => ?_) fun Hy h => ?_
    · obtain ⟨rfl, hz⟩ := y
      obtain ⟨r1, ca⟩ := h
      by_cases lo : j < st.of.length
      · have ez : z = .str st.of[j] := by
          unfold Stp.rest at hz
          rw [List.getElem?_append_left (by simpa using lo)] at hz
          simpa [lo] using hz.symm
        subst ez
        refine ⟨rfl, ?_⟩
        refine ⟨_, rfl, _, _, _, _, _, rfl, .ty "str", .base (.str _), Z.ss, true, rfl, ?_⟩
        refine yes rfl ?_
        obtain ⟨e, he⟩ := fit.1 _ (List.getElem_mem lo)
        have ev := wk.w _ _ he
        refine ⟨_, rfl, _, rfl, a, _, rfl, ev ▸ DGet.k (k := .inr st.of[j]) ((s2.trans r1) _ _ ha), ?_⟩
        refine ⟨_, ca, by rw [List.length_map, List.length_take, sizeLine_eq]; omega, same_put r1 hL, ?_⟩
        rw [upd_same, List.take_succ_eq_append_getElem lo, List.map_append, ← (wLook_of he).1]
        rfl
      · obtain ⟨nn, rfl⟩ : ∃ nn, z = .int nn := by
          unfold Stp.rest at hz
          rw [List.getElem?_append_right (by simpa using lo)] at hz
          simp only [List.getElem?_map, Option.map_eq_some_iff] at hz
          obtain ⟨nn, _, e⟩ := hz
          exact ⟨nn, e.symm⟩
        refine ⟨rfl, ?_⟩
        refine ⟨_, rfl, _, _, _, _, _, rfl, .ty "str", .base (.int _), Z.is_, false, rfl, ?_⟩
        refine no rfl ?_
        refine ⟨r1, ?_⟩
        rw [List.take_of_length_le (by omega)] at ca ⊢
        exact ca
    obtain ⟨r1, ca⟩ := h
    have rl : st.rest.length = st.of.length + st.num.length := by simp [Stp.rest]
    rw [List.take_of_length_le (by omega)] at ca
    have sy := s2.trans r1
    refine ⟨_, _, rfl, ?_⟩
    clear ep hL r1 s2 s1 hp lo3 rl rest_eq
    have ha2 := sy _ _ ha
    have hb2 := sy _ _ hb
    have hv2 := sy _ _ hav
    have k2' : ∀ H', Same Hy H' → Q (.int (weigh W st : Nat)) H' := fun H' s => k H' (sy.trans s)
    refine ⟨_, rfl, rfl, _, rfl, ?_⟩
    have in2 : ∀ {t : Addr} {u v : Str} {H' : Hp}, H' t = none → SqT K (upd H' t (.tup [.str u, .str v])) t [.str u, .str v] := fun h => SqT.of upd_same
    cases st with
    | free =>
      refine yes rfl ?_
      refine ⟨_, rfl, a, k1, rfl, ha2, _, _, rfl, rfl, .inr ⟨_, rfl, ?_⟩⟩
      have := k2' Hy (Same.refl _)
      have e : (if decide ((1 : Int) < (k1.length : Nat)) = true then (1 : Int) else 0) = ((weigh W .free : Nat) : Int) := by
        show _ = (((if W.length > 1 then 1 else 0 : Nat)) : Int)
        rw [wk.len]
        by_cases h : W.length > 1
        · rw [if_pos h, if_pos (by simp; omega)]
          rfl
        · rw [if_neg h, if_neg (by simp; omega)]
          rfl
      rw [← e] at this
      exact this
    | on l =>
      refine no (strNo wd.1) ?_
      refine in_two (i := 3) rfl fun H3 s3 => yes (by show inV (.str "on") [.str "on", .str "round"] = true; decide +kernel) ?_
      obtain ⟨e, he⟩ := fit.1 l (by simp [Stp.of])
      have ey := wk.y l e he
      refine ⟨_, rfl, L, _, (0 : Nat), _, rfl, rfl, SqL.of (s3 _ _ ca), at0, _, rfl, b, rfl, .inl ⟨_, .inl (s3 _ _ hb2)⟩, _, rfl, av, _, (2 : Nat), .str l, rfl, rfl, SqT.of (s3 _ _ hv2), atI_nat rfl, _, DGet.k (k := .inr l) (s3 _ _ hb2), ?_⟩
      rw [ey]
      refine ⟨wOf W l, yOf W l, rfl, ?_, _, _, rfl, rfl, ?_⟩
      · rw [(wLook_of he).2]
        obtain ⟨e1, e2⟩ := e
        cases e2 <;> rfl
      · have := k2' H3 s3
        rw [show ((weigh W (.on l) : Nat) : Int) = (wOf W l : Int) + (yOf W l : Int) + 2 by show ((wOf W l + yOf W l + 2 : Nat) : Int) = _; omega] at this
        exact this
    | round l =>
      refine no (strNo wd.2.1) ?_
      refine in_two (i := 3) rfl fun H3 s3 => yes (by show inV (.str "round") [.str "on", .str "round"] = true; decide +kernel) ?_
      obtain ⟨e, he⟩ := fit.1 l (by simp [Stp.of])
      have ey := wk.y l e he
      refine ⟨_, rfl, L, _, (0 : Nat), _, rfl, rfl, SqL.of (s3 _ _ ca), at0, _, rfl, b, rfl, .inl ⟨_, .inl (s3 _ _ hb2)⟩, _, rfl, av, _, (2 : Nat), .str l, rfl, rfl, SqT.of (s3 _ _ hv2), atI_nat rfl, _, DGet.k (k := .inr l) (s3 _ _ hb2), ?_⟩
      rw [ey]
      refine ⟨wOf W l, yOf W l, rfl, ?_, _, _, rfl, rfl, ?_⟩
      · rw [(wLook_of he).2]
        obtain ⟨e1, e2⟩ := e
        cases e2 <;> rfl
      · have := k2' H3 s3
        rw [show ((weigh W (.round l) : Nat) : Int) = (wOf W l : Int) + (yOf W l : Int) + 2 by show ((wOf W l + yOf W l + 2 : Nat) : Int) = _; omega] at this
        exact this
    | turn p q n =>
      refine no (strNo wd.2.2.2.1) ?_
      refine in_two (i := 3) rfl fun H3 s3 => no (by show inV (.str "turn") [.str "on", .str "round"] = false; decide +kernel) ?_
      refine in_two (i := 3) rfl fun H4 s4 => no (by show inV (.str "turn") [.str "foot", .str "mirror"] = false; decide +kernel) ?_
      refine ⟨_, rfl, rfl, _, rfl, no (strNo (show ("turn" : Str) ≠ "other" by decide +kernel)) ?_⟩
      have s34 := s3.trans s4
      refine ⟨_, rfl, L, _, (0 : Nat), _, rfl, rfl, SqL.of (s34 _ _ ca), at0, ?_⟩
      refine in_two (i := 3) rfl fun H5 s5 => no (by show inV (.str "turn") [.str "along", .str "upright"] = false; decide +kernel) ?_
      refine ⟨_, rfl, L, _, (1 : Nat), .int (wOf W q : Nat), rfl, rfl, SqL.of ((s34.trans s5) _ _ ca), atI_nat rfl, wOf W p, wOf W q, rfl, rfl, ?_⟩
      have := k2' H5 (s34.trans s5)
      rw [show ((weigh W (.turn p q n) : Nat) : Int) = (wOf W p : Int) + (wOf W q : Int) by show ((wOf W p + wOf W q : Nat) : Int) = _; omega] at this
      exact this
    | other l c p =>
      refine no (strNo wd.2.2.2.2.2.2.1) ?_
      refine in_two (i := 3) rfl fun H3 s3 => no (by show inV (.str "other") [.str "on", .str "round"] = false; decide +kernel) ?_
      refine in_two (i := 3) rfl fun H4 s4 => no (by show inV (.str "other") [.str "foot", .str "mirror"] = false; decide +kernel) ?_
      refine ⟨_, rfl, rfl, _, rfl, yes (strYes rfl) ?_⟩
      have s34 := s3.trans s4
      refine ⟨_, rfl, L, _, (0 : Nat), .int (wOf W l : Nat), rfl, rfl, SqL.of (s34 _ _ ca), at0, 2, wOf W l, rfl, rfl, .inl ⟨by decide, by decide⟩, _, rfl, L, _, (1 : Nat), .int (wOf W c : Nat), rfl, rfl, SqL.of (s34 _ _ ca), atI_nat rfl, _, wOf W c, rfl, rfl, _, rfl, L, _, (2 : Nat), .int (wOf W p : Nat), rfl, rfl, SqL.of (s34 _ _ ca), atI_nat rfl, _, wOf W p, rfl, rfl, ?_⟩
      have := k2' H4 s34
      rw [show ((weigh W (.other l c p) : Nat) : Int) = 2 * (wOf W l : Int) + (wOf W c : Int) + (wOf W p : Int) by show ((2 * wOf W l + wOf W c + wOf W p : Nat) : Int) = _; omega] at this
      exact this
    | two b' p q =>
      refine no (strNo (bw b').1) ?_
      refine in_two (i := 3) rfl fun H3 s3 => no (bn_in1 b') ?_
      refine in_two (i := 3) rfl fun H4 s4 => ?_
      have s34 := s3.trans s4
      by_cases c1 : b' = .foot ∨ b' = .mirror
      · refine yes (by show inV (.str b'.word) _ = true; rw [bn_in2]; exact decide_eq_true c1) ?_
        refine ⟨_, rfl, L, _, (0 : Nat), .int (wOf W p : Nat), rfl, rfl, SqL.of (s34 _ _ ca), at0, _, rfl, L, _, (1 : Nat), .int (wOf W q : Nat), rfl, rfl, SqL.of (s34 _ _ ca), atI_nat rfl, 2, wOf W q, rfl, rfl, .inl ⟨by decide, by decide⟩, wOf W p, _, rfl, rfl, ?_⟩
        have := k2' H4 s34
        rw [weigh_fm c1, show ((wOf W p + 2 * wOf W q : Nat) : Int) = (wOf W p : Int) + 2 * (wOf W q : Int) by omega] at this
        exact this
      refine no (by show inV (.str b'.word) _ = false; rw [bn_in2]; exact decide_eq_false c1) ?_
      refine ⟨_, rfl, rfl, _, rfl, no (strNo (bw b').2.2.2.2.2) ?_⟩
      refine ⟨_, rfl, L, _, (0 : Nat), .int (wOf W p : Nat), rfl, rfl, SqL.of (s34 _ _ ca), at0, ?_⟩
      refine in_two (i := 3) rfl fun H5 s5 => ?_
      have s35 := s34.trans s5
      by_cases c2 : b' = .along ∨ b' = .upright
      · refine yes (by show inV (.str b'.word) _ = true; rw [bn_in3]; exact decide_eq_true c2) ?_
        obtain ⟨e, n, he⟩ : ∃ e n, wLook W q = some (e, some n) := by
          have h := fit.2
          rcases c2 with rfl | rfl <;> exact h
        have ey : valV k2 (.inr q) = some (V.int (n : Nat)) := by
          rw [wk.y _ _ he]
          rfl
        refine ⟨_, rfl, _, rfl, av, _, (3 : Nat), .str q, rfl, rfl, SqT.of (s35 _ _ hv2), atI_nat rfl, b, _, rfl, ey ▸ DGet.k (k := .inr q) (s35 _ _ hb2), wOf W p, n, rfl, rfl, ?_⟩
        have := k2' H5 s35
        rw [weigh_au c2, (wLook_of he).2, show ((wOf W p + (some n).getD 0 : Nat) : Int) = (wOf W p : Int) + (n : Int) from Int.natCast_add _ _] at this
        exact this
      · refine no (by show inV (.str b'.word) _ = false; rw [bn_in3]; exact decide_eq_false c2) ?_
        refine ⟨_, rfl, L, _, (1 : Nat), .int (wOf W q : Nat), rfl, rfl, SqL.of (s35 _ _ ca), atI_nat rfl, wOf W p, wOf W q, rfl, rfl, ?_⟩
        have := k2' H5 s35
        rw [weigh_el c1 c2, show ((wOf W p + wOf W q : Nat) : Int) = (wOf W p : Int) + (wOf W q : Int) from Int.natCast_add _ _] at this
        exact this
end
end Ph
set_option linter.all false
set_option maxRecDepth 100000
set_option maxHeartbeats 40000000
set_option exponentiation.threshold 500
namespace Ph
open PySem PySem.Spec PyProof.Rows L2 LamX
open C8 (pss_cut)
/-! ### a plan grows by a step -/
theorem wts_names (pl : Pl) : (wts pl).map (·.1) = pl.names.reverse := by
  suffices h : ∀ (pl : Pl) (W : Wts), (pl.foldl addW W).map (·.1) = pl.names.reverse ++ W.map (·.1) by
    have := h pl []
    rw [List.map_nil, List.append_nil] at this
    exact this
  intro pl
  induction pl with
  | nil => intro W; rfl
  | cons s r ih =>
    intro W
    rw [List.foldl_cons, ih]
    simp [addW, Pl.names]
theorem wts_len (pl : Pl) : (wts pl).length = pl.length := by
  have h := congrArg List.length (wts_names pl)
  simpa using h
theorem wLook_none {W : Wts} {x : Str} (h : x ∉ W.map (·.1)) : wLook W x = none := by
  induction W with
  | nil => rfl
  | cons e r ih =>
    obtain ⟨y, e⟩ := e
    simp only [List.map_cons, List.mem_cons, not_or] at h
    unfold wLook
    rw [if_neg h.1]
    exact ih h.2
theorem wts_new {pl : Pl} {x : Str} (h : x ∉ pl.names) : wLook (wts pl) x = none := wLook_none (by rw [wts_names, List.mem_reverse]; exact h)
theorem wts_has : ∀ {pl : Pl}, pl.names.Nodup → ∀ {x : Str} {s : Stp}, (x, s) ∈ pl → ∃ e, wLook (wts pl) x = some e ∧ (s.kd = .ln → ∃ n, e.2 = some n) := by
  intro pl
  suffices h : ∀ n (pl : Pl), pl.length = n → pl.names.Nodup → ∀ {x : Str} {s : Stp}, (x, s) ∈ pl → ∃ e, wLook (wts pl) x = some e ∧ (s.kd = .ln → ∃ n, e.2 = some n) from h _ pl rfl
  intro n
  induction n with
  | zero =>
    intro pl hl _ x s h
    rw [List.length_eq_zero_iff.mp hl] at h
    cases h
  | succ n ih =>
    intro pl hl nd x s h
    rcases List.eq_nil_or_concat pl with rfl | ⟨r, ⟨y, t⟩, rfl⟩
    · cases hl
    rw [List.concat_eq_append] at *
    rw [wts_snoc]
    have nd2 : (Pl.names r).Nodup ∧ y ∉ Pl.names r := by
      have h1 : (Pl.names r ++ [y]).Nodup := by simpa [Pl.names] using nd
      rw [List.nodup_append] at h1
      exact ⟨h1.1, fun z => h1.2.2 y z y (by simp) rfl⟩
    unfold addW wLook
    by_cases e : x = y
    · subst e
      rw [if_pos rfl]
      refine ⟨_, rfl, fun hk => ?_⟩
      have es : s = t := by
        rcases List.mem_append.mp h with h | h
        · exact absurd (List.mem_map.mpr ⟨(x, s), h, rfl⟩) nd2.2
        · rw [List.mem_singleton] at h
          cases h
          rfl
      subst es
      cases s with
      | two b p q => cases b <;> first | exact ⟨_, rfl⟩ | cases hk
      | _ => cases hk
    · rw [if_neg e]
      refine ih r (by simpa using hl) nd2.1 ?_
      rcases List.mem_append.mp h with h | h
      · exact h
      · rw [List.mem_singleton] at h
        cases h
        exact absurd rfl e
theorem good_fit {pl : Pl} {s : Stp} (nd : pl.names.Nodup) (g : Good pl s) : WtFit (wts pl) s := by
  have has : ∀ y ∈ s.of, ∃ e, wLook (wts pl) y = some e := fun y hy => by
    obtain ⟨⟨_, t⟩, ht, rfl⟩ := List.mem_map.mp (g.names y hy)
    obtain ⟨e, he, _⟩ := wts_has nd ht
    exact ⟨e, he⟩
  refine ⟨has, ?_⟩
  have ln : ∀ {y : Str}, y ∈ knownN pl .ln → ∃ e n, wLook (wts pl) y = some (e, some n) := fun {y} hy => by
    obtain ⟨t, ht, hk⟩ := mem_known.mp hy
    obtain ⟨⟨e1, e2⟩, he, h2⟩ := wts_has nd ht
    obtain ⟨n, rfl⟩ := h2 hk
    exact ⟨e1, n, he⟩
  cases s with
  | two b p q => cases b <;> first | exact trivial | exact ln g.2
  | _ => trivial
theorem GenOk.snoc {pl : Pl} {x : Str} {s : Stp} (g : GenOk pl) (hx : x ∉ pl.names) (hz : PyData.strOk x = true) (hg : Good pl s) (hw : weigh (wts pl) s ≤ 12) (h2 : pl.length < 2 → s = .free) : GenOk (pl ++ [(x, s)]) := by
  refine ⟨?_, fun y hy => ?_, fun i y t hi => ?_, fun i y t lt hi => ?_⟩
  · show ((pl ++ [(x, s)]).map (·.1)).Nodup
    rw [List.map_append, List.nodup_append]
    refine ⟨g.nd, by simp, fun a ha b hb => ?_⟩
    simp only [List.map_cons, List.map_nil, List.mem_singleton] at hb
    subst hb
    intro z
    subst z
    exact hx ha
  · simp only [Pl.names, List.map_append, List.mem_append, List.map_cons, List.map_nil, List.mem_singleton] at hy
    rcases hy with hy | rfl
    · exact g.so y hy
    · exact hz
  · by_cases lt : i < pl.length
    · rw [List.getElem?_append_left lt] at hi
      rw [List.take_append_of_le_length (by omega)]
      exact g.good i y t hi
    · rw [List.getElem?_append_right (by omega)] at hi
      have i0 : i = pl.length := by
        have := (List.getElem?_eq_some_iff.mp hi).1
        simp at this
        omega
      subst i0
      rw [Nat.sub_self] at hi
      cases hi
      rw [List.take_left]
      exact ⟨hg, hw⟩
  · by_cases lt2 : i < pl.length
    · rw [List.getElem?_append_left lt2] at hi
      exact g.free2 i y t lt hi
    · rw [List.getElem?_append_right (by omega)] at hi
      have i0 : i = pl.length := by
        have := (List.getElem?_eq_some_iff.mp hi).1
        simp at this
        omega
      subst i0
      rw [Nat.sub_self] at hi
      cases hi
      exact h2 lt
theorem weigh_free (W : Wts) : weigh W .free ≤ 1 := by
  show (if W.length > 1 then 1 else 0) ≤ 1
  split <;> omega
theorem two_points {pl : Pl} (g : GenOk pl) (h : 2 ≤ pl.length) : 2 ≤ (knownN pl .pt).length := by
  match pl, h with
  | (x, s) :: (y, t) :: r, _ =>
    have h1 := g.free2 0 x s (by decide) rfl
    have h2 := g.free2 1 y t (by decide) rfl
    subst h1 h2
    show 2 ≤ (((((x, Stp.free) :: (y, Stp.free) :: r : Pl).filter fun s => decide (s.2.kd = .pt)).map (·.1))).length
    rw [List.filter_cons_of_pos (by rfl), List.filter_cons_of_pos (by rfl)]
    simp
/-! ### the dicts grow -/
theorem WtK.add {W : Wts} {k1 k2 k2' : List (Key × V)} {x : Str} {s : Stp} (h : WtK W k1 k2) (hx : wLook W x = none) (h2 : k2' = match wayW W s with | some n => putK k2 (.inr x) (.int (n : Nat)) | none => k2) :
    WtK (addW W (x, s)) (putK k1 (.inr x) (.int (weigh W s : Nat))) k2' := by
  have e1 : valV k1 (.inr x) = none := by
    rw [h.w, hx]
    rfl
  refine ⟨?_, ?_, fun y => ?_, fun y => ?_⟩
  · rw [putK_new _ e1]
    simp [addW, h.len]
  · have h3 := h.few
    subst h2
    show _ ≤ W.length + 1
    split
    · exact Nat.le_trans (length_putK _ _ _) (by omega)
    · omega
  · rw [valV_put]
    unfold addW wLook
    by_cases z : y = x
    · subst z
      rw [if_pos rfl, if_pos rfl]
      rfl
    · rw [if_neg (fun q => z (Sum.inr.inj q)), if_neg z]
      exact h.w y
  · subst h2
    unfold addW wLook
    cases e : wayW W s with
    | none =>
      dsimp only
      by_cases z : y = x
      · subst z
        rw [if_pos rfl, h.y, hx]
        rfl
      · rw [if_neg z]
        exact h.y y
    | some n =>
      dsimp only
      rw [valV_put]
      by_cases z : y = x
      · subst z
        rw [if_pos rfl, if_pos rfl]
        rfl
      · rw [if_neg (fun q => z (Sum.inr.inj q)), if_neg z]
        exact h.y y
theorem WtR.put {W : Wts} {k1 k2 : List (Key × V)} {x : Str} {v : V} (h : WtR W k1 k2) (hx : wLook W x = none) : WtR W k1 (putK k2 (.inr x) v) := by
  refine ⟨h.len, h.w, fun y e he => ?_⟩
  rw [valV_put, if_neg (fun q => by rw [Sum.inr.inj q, hx] at he; cases he)]
  exact h.y y e he
end Ph
set_option linter.all false
set_option maxRecDepth 100000
set_option maxHeartbeats 40000000
set_option exponentiation.threshold 500
namespace Ph
open PySem PySem.Spec PyProof.Rows L2 LamX
open C8 (pss_cut)
/-- what stands while a plan is made -/
structure PJ (D C An Lp Wd Yd : Addr) (ns : List Str) (H : Hp) (pl : Pl) (k1 k2 : List (Key × V)) (H' : Hp) : Prop where
  kp : KpD D C H H'
  dk : Deck D C H'
  an : H' An = some (.lst (ns.map V.str))
  lp : PlL pl Lp H'
  wd : H' Wd = some (.dK k1)
  yd : H' Yd = some (.dK k2)
structure PN (D C An Lp Wd Yd : Addr) (H : Hp) : Prop where
  a1 : An ≠ D
  a2 : An ≠ C
  l1 : Lp ≠ D
  l2 : Lp ≠ C
  w1 : Wd ≠ D
  w2 : Wd ≠ C
  y1 : Yd ≠ D
  y2 : Yd ≠ C
  la : Lp ≠ An
  wy : Wd ≠ Yd
  lf : H Lp = none
  wf : H Wd = none
  yf : H Yd = none
section
variable {D C An Lp Wd Yd : Addr} {ns : List Str} {H H1 H2 : Hp} {pl : Pl} {k1 k2 : List (Key × V)}
theorem PJ.kpd (j : PJ D C An Lp Wd Yd ns H pl k1 k2 H1) (n : PN D C An Lp Wd Yd H) (k : KpD D C H1 H2) (d : Deck D C H2) : PJ D C An Lp Wd Yd ns H pl k1 k2 H2 :=
  ⟨j.kp.trans k, d, k _ _ n.a1 n.a2 j.an, j.lp.kp j.dk n.l1 n.l2 k, k _ _ n.w1 n.w2 j.wd, k _ _ n.y1 n.y2 j.yd⟩
theorem PJ.same (j : PJ D C An Lp Wd Yd ns H pl k1 k2 H1) (n : PN D C An Lp Wd Yd H) (s : Same H1 H2) : PJ D C An Lp Wd Yd ns H pl k1 k2 H2 := j.kpd n (KpD.of s) (j.dk.same s)
theorem PJ.putY (j : PJ D C An Lp Wd Yd ns H pl k1 k2 H1) (n : PN D C An Lp Wd Yd H) (k2' : List (Key × V)) : PJ D C An Lp Wd Yd ns H pl k1 k2' (upd H1 Yd (.dK k2')) := by
  have si : SameI H1 (upd H1 Yd (.dK k2')) := SameI.put j.yd (fun z => z)
  obtain ⟨vs, h1, h2⟩ := j.lp
  refine ⟨j.kp.put n.yf, j.dk.keep n.y1 n.y2, ?_, ⟨vs, ?_, h2.sameI (fun _ => mi_st) si⟩, ?_, upd_same⟩
  · rw [upd_ne (ne_of j.an j.yd (by intro z; cases z))]
    exact j.an
  · rw [upd_ne (ne_of h1 j.yd (by intro z; cases z))]
    exact h1
  · rw [upd_ne n.wy]
    exact j.wd
theorem PJ.putW (j : PJ D C An Lp Wd Yd ns H pl k1 k2 H1) (n : PN D C An Lp Wd Yd H) (k1' : List (Key × V)) : PJ D C An Lp Wd Yd ns H pl k1' k2 (upd H1 Wd (.dK k1')) := by
  have si : SameI H1 (upd H1 Wd (.dK k1')) := SameI.put j.wd (fun z => z)
  obtain ⟨vs, h1, h2⟩ := j.lp
  refine ⟨j.kp.put n.wf, j.dk.keep n.w1 n.w2, ?_, ⟨vs, ?_, h2.sameI (fun _ => mi_st) si⟩, upd_same, ?_⟩
  · rw [upd_ne (ne_of j.an j.wd (by intro z; cases z))]
    exact j.an
  · rw [upd_ne (ne_of h1 j.wd (by intro z; cases z))]
    exact h1
  · rw [upd_ne (Ne.symm n.wy)]
    exact j.yd
theorem PJ.snoc (j : PJ D C An Lp Wd Yd ns H pl k1 k2 H1) (n : PN D C An Lp Wd Yd H) {s : Str × Stp} {v : V} {vs : List V} (h : StA s H1 v) (h1 : H1 Lp = some (.lst vs)) (h2 : Each StA pl H1 vs) : PJ D C An Lp Wd Yd ns H (pl ++ [s]) k1 k2 (upd H1 Lp (.lst (vs ++ [v]))) := by
  have si : SameI H1 (upd H1 Lp (.lst (vs ++ [v]))) := SameI.put h1 (fun z => z)
  refine ⟨j.kp.put n.lf, j.dk.keep n.l1 n.l2, ?_, ⟨_, upd_same, (h2.sameI (fun _ => mi_st) si).snoc (mi_st _ _ _ si h)⟩, ?_, ?_⟩
  · rw [upd_ne (Ne.symm n.la)]
    exact j.an
  · rw [upd_ne (ne_of j.wd h1 (by intro z; cases z))]
    exact j.wd
  · rw [upd_ne (ne_of j.yd h1 (by intro z; cases z))]
    exact j.yd
end
section
variable {P : Program} {w : World} {K : PySem.W.Frag} {mg : Str → Option Value} {base : Heap} {CE CN CR : Addr}
theorem run_weigh {a b : Addr} {k1 k2 : List (Key × V)} {W : Wts} {x : Str} {s : Stp} {v : V} {σ : L2.St} {H : Hp} {E : XK} (ha : H a = some (.dK k1)) (hb : H b = some (.dK k2)) (wk : WtR W k1 k2) (hv : StA (x, s) H v) (fit : WtFit W s) (i1 : σ[6]? = some (some (.ref a))) (i2 : σ[10]? = some (some v)) (i3 : σ[7]? = some (some (.ref b))) :
    EG (Iv (weigh W s : Nat)) (tCall spWeigh [] E (tCons (tVar 6) (tCons (tVar 10) (tCons (tVar 7) tNil)))) σ H := fun H1 s1 Q q =>
  ⟨_, i1, _, i2, _, i3, a, b, v, W, k1, k2, x, s, rfl, s1 _ _ ha, s1 _ _ hb, wk, mo_st _ _ _ s1 hv, fit, fun H2 s2 => q _ H2 s2 rfl⟩
theorem line_of {s : Stp} (h : s.word = "line") : ∃ p q, s = .two .line p q := by
  have e := (st_words s).1
  rw [h] at e
  have e2 : inV (.str "line") lnWords = true := by decide +kernel
  rw [e2] at e
  have e3 : s.kd = .ln := of_decide_eq_true e.symm
  cases s with
  | two b x y =>
    cases b with
    | line => exact ⟨x, y, rfl⟩
    | along => exact absurd h (by show ("along" : Str) ≠ "line"; decide +kernel)
    | upright => exact absurd h (by show ("upright" : Str) ≠ "line"; decide +kernel)
    | _ => cases e3
  | _ => cases e3
theorem st_au (s : Stp) : (∃ b p l, s = .two b p l ∧ (b = .along ∨ b = .upright) ∧ inV (.str s.word) [.str "along", .str "upright"] = true ∧ s.word ≠ "line") ∨ (inV (.str s.word) [.str "along", .str "upright"] = false ∧ (s.word ≠ "line" → ∀ W, wayW W s = none)) := by
  cases s with
  | two b p l =>
    by_cases h : b = .along ∨ b = .upright
    · refine .inl ⟨b, p, l, rfl, h, ?_, ?_⟩
      · show inV (.str b.word) _ = true
        rw [bn_in3]
        exact decide_eq_true h
      · rcases h with rfl | rfl
        · show ("along" : Str) ≠ "line"
          decide +kernel
        · show ("upright" : Str) ≠ "line"
          decide +kernel
    · refine .inr ⟨?_, fun hl W => ?_⟩
      · show inV (.str b.word) _ = false
        rw [bn_in3]
        exact decide_eq_false h
      · cases b <;> first | rfl | exact absurd rfl hl | exact absurd (.inl rfl) h | exact absurd (.inr rfl) h
  | free => exact .inr ⟨by show inV (.str "free") _ = false; decide +kernel, fun _ _ => rfl⟩
  | on l => exact .inr ⟨by show inV (.str "on") _ = false; decide +kernel, fun _ _ => rfl⟩
  | round c => exact .inr ⟨by show inV (.str "round") _ = false; decide +kernel, fun _ _ => rfl⟩
  | turn p q k => exact .inr ⟨by show inV (.str "turn") _ = false; decide +kernel, fun _ _ => rfl⟩
  | other l c p => exact .inr ⟨by show inV (.str "other") _ = false; decide +kernel, fun _ _ => rfl⟩
theorem wOf_some {W : Wts} {y : Str} {e : Nat × Option Nat} {k1 k2 : List (Key × V)} (wk : WtK W k1 k2) (h : wLook W y = some e) : valV k1 (.inr y) = some (.int (wOf W y : Nat)) := by
  rw [wk.w, h, (wLook_of h).1]
  rfl
abbrev s__law_plan : Stmt := top 89
theorem sc__law_plan : FnScope ["_law_deck_here", "_law_many_here", "_law_heavy", "_law_names_here", "_law_first", "_law_plan_here", "_law_weights", "_law_ways", "_law_k", "_law_name", "_law_step"] ["_law_deck_here", "_law_many_here", "_law_heavy"] (defScope s__law_plan) := ⟨rfl, rfl, rfl, by decide +kernel, rfl, by decide +kernel, by decide +kernel⟩
def spPlan : Sp := fun vs H Q _ => ∃ (D C : Addr) (m : Nat), vs = [.ref D, .int m, .int 12] ∧ 6 ≤ m ∧ m ≤ 12 ∧ Deck D C H ∧ ∀ v pl H', KpD D C H H' → Deck D C H' → PlA pl H' v → GenOk pl → pl.length = m → Q v H'
theorem ok__law_plan (B : Bl mg) (c__law_draw : Cal P w K mg base CX0 1 "_law_draw" ["_law_deck_here", "_law_many_here"] spDraw) (c__law_names : Cal P w K mg base CX0 2 "_law_names" ["_law_deck_here", "_law_many_here"] spNames) (c__law_some_step : Cal P w K mg base CX0 3 "_law_some_step" ["_law_deck_here", "_law_plan_here", "_law_name"] spSome)
    (c__law_weigh : Cal P w K mg base CX0 1 "_law_weigh" ["_law_weights", "_law_step", "_law_ways"] spWeigh) (F : FnAt K mg "_law_plan" s__law_plan) : Cal P w K mg base CX0 4 "_law_plan" ["_law_deck_here", "_law_many_here", "_law_heavy"] spPlan := by
  refine Cal.of0 F sc__law_plan (fun _ _ _ _ _ _ us hl => match us, hl with | [_, _, _], _ => rfl) (fun vs H Q E h => ?_) (fun f cdv A outer s H vs Q E hr h => ?_)
  · obtain ⟨D, C, m, rfl, _⟩ := h
    rfl
  · obtain ⟨D, C, m, rfl, m6, m12, dk, k⟩ := h
    have hu : (A.deeper (envOfC "_law_plan" (defScope s__law_plan) s.heap.objs.size f cdv)).units + 1 < cLine := by
      have := hr.un
      omega
    refine ⟨_, (pss_cons (ps_set (i := 3) sc__law_plan.nd rfl (by first | exact Or.inl rfl | exact Or.inr rfl) (pe_c c__law_names (hr.mono (by omega)) (pa_cons (pv 0) (pa_cons (pv 1) pa_nil))))
      (pss_cons (ps_set (i := 4) sc__law_plan.nd rfl (by first | exact Or.inl rfl | exact Or.inr rfl) (pe_callB (call_min2 rfl) (by rfl) B.min (by decide +kernel) (pa_cons (pv 1) (pa_cons (pe_op op_add pe_int (pe_c c__law_draw (hr.mono (by omega)) (pa_cons (pv 0) (pa_cons pe_int pa_nil)))) pa_nil))))
      (pss_cons (ps_par3 (i := 5) (j := 6) (l := 7) (by rfl) sc__law_plan.nd rfl rfl rfl (by decide) (by decide) (by decide) rfl rfl rfl (pa_cons (pe_lst pa_nil) (pa_cons pe_dnewK (pa_cons pe_dnewK pa_nil))) (by rfl))
      (pss_cons (ps_for PassesOwn.never rfl (pi_enum (by rfl) B.enumerate (pa_cons (pv 3) pa_nil)) (pg_tup rfl (pgs_cons (pg_name (i := 8) sc__law_plan.nd rfl (by first | exact Or.inl rfl | exact Or.inr rfl)) (pgs_cons (pg_name (i := 9) sc__law_plan.nd rfl (by first | exact Or.inl rfl | exact Or.inr rfl)) pgs_nil))) (pss_cons (ps_set (i := 10) sc__law_plan.nd rfl (by first | exact Or.inl rfl | exact Or.inr rfl) (pe_tup (pa_cons pe_str (pa_cons (pv 9) pa_nil))))
      (pss_cut (ps_if (pt_cmpR op_ge (pv 8) (pv 4) (by first | exact nomark _ | rfl)) (pss_one (ps_set (i := 10) sc__law_plan.nd rfl (by first | exact Or.inl rfl | exact Or.inr rfl) (pe_c c__law_some_step (hr.mono (by omega)) (pa_cons (pv 0) (pa_cons (pv 5) (pa_cons (pv 9) pa_nil)))))) pss_nil)
      (pss_cut (ps_if (pt_cmpR op_gt (pe_c c__law_weigh (hr.mono (by omega)) (pa_cons (pv 6) (pa_cons (pv 10) (pa_cons (pv 7) pa_nil)))) (pv 2) (by first | exact nomark _ | rfl)) (pss_one (ps_set (i := 10) sc__law_plan.nd rfl (by first | exact Or.inl rfl | exact Or.inr rfl) (pe_tup (pa_cons pe_str (pa_cons (pv 9) pa_nil))))) pss_nil)
      (pss_cut (ps_if (pt_cmpR op_eq (pe_ix ix_tup (pv 10) pe_int (fun _ _ => rfl)) pe_str (by first | exact nomark _ | rfl)) (pss_one (ps_dput hu (pv 7) (pv 9) (pe_op op_add (pe_dget hu (pv 6) (pe_ix ix_tup (pv 10) pe_int (fun _ _ => rfl)) (fun _ _ => rfl)) (pe_dget hu (pv 6) (pe_ix ix_tup (pv 10) pe_int (fun _ _ => rfl)) (fun _ _ => rfl))) rfl)) pss_nil)
      (pss_cut (ps_if (pt_cmpR op_in_seq (pe_ix ix_tup (pv 10) pe_int (fun _ _ => rfl)) (pe_tup (pa_cons pe_str (pa_cons pe_str pa_nil))) (by first | exact nomark _ | rfl)) (pss_one (ps_dput hu (pv 7) (pv 9) (pe_dget hu (pv 7) (pe_ix ix_tup (pv 10) pe_int (fun _ _ => rfl)) (fun _ _ => rfl)) rfl)) pss_nil)
      (pss_cons (ps_dput hu (pv 6) (pv 9) (pe_c c__law_weigh (hr.mono (by omega)) (pa_cons (pv 6) (pa_cons (pv 10) (pa_cons (pv 7) pa_nil)))) rfl)
      (pss_one (ps_expr (pe_bm PySem.F.plainAttrs_list PySem.F.slot_list_append PySem.F.type_list_append mt_append (pv 5) (pa_cons (pv 10) pa_nil)))))))))))
      (pss_one (ps_ret (pe_callTy call_tuple_of (by rfl) B.tuple (by decide +kernel) (pa_cons (pv 5) pa_nil)))))))), ?_⟩
    refine ⟨_, rfl, _, rfl, D, C, m, rfl, m6, m12, dk, fun An ns H1 kp1 dk1 a1 a2 hAn ok => ?_⟩
    refine ⟨_, rfl, _, rfl, D, C, 3, rfl, by decide, by decide, dk1, fun k2 H2 b2 c2 kp2 dk2 => ⟨_, _, rfl, rfl, _, _, rfl, ?_⟩⟩
    obtain ⟨first, hf, f2⟩ : ∃ first : Int, (if 2 + k2 < (m : Int) then 2 + k2 else (m : Int)) = first ∧ 2 ≤ first := ⟨_, rfl, by split <;> omega⟩
    dsimp only
    rw [hf]
    refine gN ?_
    have hAn2 := kp2 _ _ a1 a2 hAn
    have kp02 := kp1.trans kp2
    refine ⟨Nat.zero_le _, fun Lp hLp Wd hWd Yd hYd => ⟨_, _, _, rfl, ?_⟩⟩
    have s1 := same_new (o := .lst []) hLp
    have s2 := same_new (o := .dK []) hWd
    have s3 := same_new (o := .dK []) hYd
    obtain ⟨l1, l2⟩ := dk2.neD hLp
    obtain ⟨w1, w2⟩ := (dk2.same s1).neD hWd
    obtain ⟨y1, y2⟩ := ((dk2.same s1).same s2).neD hYd
    have s13 := (s1.trans s2).trans s3
    have n : PN D C An Lp Wd Yd H := ⟨a1, a2, l1, l2, w1, w2, y1, y2, Ne.symm (ne_of_none hAn2 hLp), ne_of_none upd_same hYd, kp02.fresh dk2 hLp, kp02.fresh dk2 (s1.free hWd), kp02.fresh dk2 ((s1.trans s2).free hYd)⟩
    have j0 : PJ D C An Lp Wd Yd ns H [] [] [] (upd (upd (upd H2 Lp (.lst [])) Wd (.dK [])) Yd (.dK [])) :=
      ⟨kp02.trans (KpD.of s13), dk2.same s13, s13 _ _ hAn2, ⟨[], (s2.trans s3) _ _ upd_same, rfl, fun i x h => by cases h⟩, s3 _ _ upd_same, upd_same⟩
    refine ⟨_, rfl, An, _, rfl, SqL.of j0.an, ?_⟩
    have nl : ns.length = m := ok.len
    refine for_it (walk_enum (K := K) (xs := ns.map V.str)) (fun i σ' H' => ∃ pl k1 k2 x8 x9 x10, σ' = [some (.ref D), some (.int m), some (.int 12), some (.ref An), some (.int first), some (.ref Lp), some (.ref Wd), some (.ref Yd), x8, x9, x10] ∧ PJ D C An Lp Wd Yd ns H pl k1 k2 H' ∧ WtK (wts pl) k1 k2 ∧ GenOk pl ∧ pl.names = ns.take i ∧ pl.length = i)
      ⟨[], [], [], none, none, none, rfl, j0, ⟨rfl, Nat.le_refl _, fun _ => rfl, fun _ => rfl⟩, ⟨by simp [Pl.names], (fun x h => by cases h), (fun i x s h => by cases h), (fun i x s _ h => by cases h)⟩, rfl, rfl⟩ (fun i σ' H' _ h => ?_) (fun i z σ' H' H3 lt h y => ?_) fun σ' H' h => ?_
    · obtain ⟨_, _, _, _, _, _, _, j, _⟩ := h
      exact SqL.of j.an
    · obtain ⟨pl, k1, k2, x8, x9, x10, rfl, j, wk, gok, hn, hl⟩ := h
      obtain ⟨T, z1, z2, rfl, hT, rfl, e1, e2⟩ := y
      cases e1
      rw [List.length_map] at lt
      obtain rfl : z2 = .str ns[i] := by
        dsimp only at e2
        rw [List.getElem?_map, List.getElem?_eq_getElem lt] at e2
        exact (Option.some.inj e2).symm
      refine ⟨T, _, rfl, SqT.of upd_same, rfl, _, _, rfl, _, _, rfl, rfl, ?_⟩
      replace j := j.same n (same_new (o := .tup [.int (i : Nat), .str ns[i]]) hT)
      generalize upd H' T (.tup [.int (i : Nat), .str ns[i]]) = H4 at j
      have hx : ns[i] ∉ pl.names := by
        rw [hn]
        intro hm
        obtain ⟨q, hq, e⟩ := List.mem_iff_getElem.mp hm
        rw [List.getElem_take] at e
        rw [List.length_take] at hq
        have := (List.getElem_inj ok.nd).mp e
        omega
      have hz := ok.lo _ (List.getElem_mem lt)
      have wx := wts_new hx
      refine ⟨_, rfl, by show 2 ≤ sizeLine; decide, fun t ht => ?_⟩
      replace j := j.same n (same_new (o := .tup [.str "free", .str ns[i]]) ht)
      have hf0 : StA (ns[i], .free) (upd H4 t (.tup [.str "free", .str ns[i]])) (.ref t) := ⟨t, rfl, upd_same⟩
      generalize upd H4 t (.tup [.str "free", .str ns[i]]) = H5 at j hf0
      refine gN ?_
      dsimp only
      refine ⟨fun σ' H' => ∃ v s, σ' = [some (.ref D), some (.int m), some (.int 12), some (.ref An), some (.int first), some (.ref Lp), some (.ref Wd), some (.ref Yd), some (.int (i : Nat)), some (.str ns[i]), some v] ∧ PJ D C An Lp Wd Yd ns H pl k1 k2 H' ∧ StA (ns[i], s) H' v ∧ Good pl s ∧ (pl.length < 2 → s = .free), ?_, ?_⟩
      · refine ⟨_, rfl, _, rfl, _, _, rfl, rfl, _, rfl, ?_⟩
        by_cases hi : first ≤ (i : Int)
        · refine yes (by simpa using hi) ?_
          refine ⟨_, rfl, _, rfl, _, rfl, D, C, Lp, pl, ns[i], rfl, n.l1, n.l2, j.lp, gok, by omega, two_points gok (by omega), j.dk, fun v s H6 kp6 dk6 hv hg => ?_⟩
          exact ⟨v, s, rfl, j.kpd n kp6 dk6, hv, hg, fun h => by omega⟩
        · exact no (by simpa using hi) ⟨_, .free, rfl, j, hf0, trivial, fun _ => rfl⟩
      clear hf0 j
      rintro σ' H6 ⟨v, s, rfl, j, hv, hg, h2⟩
      -- too heavy
      refine ⟨fun σ' H' => ∃ v s, σ' = [some (.ref D), some (.int m), some (.int 12), some (.ref An), some (.int first), some (.ref Lp), some (.ref Wd), some (.ref Yd), some (.int (i : Nat)), some (.str ns[i]), some v] ∧ PJ D C An Lp Wd Yd ns H pl k1 k2 H' ∧ StA (ns[i], s) H' v ∧ Good pl s ∧ (pl.length < 2 → s = .free) ∧ weigh (wts pl) s ≤ 12, ?_, ?_⟩
      · refine (run_weigh j.wd j.yd wk.r hv (good_fit gok.nd hg) rfl rfl rfl).run fun u H7 s7 e7 => ?_
        obtain rfl : u = .int (weigh (wts pl) s : Nat) := e7
        have j7 := j.same n s7
        refine ⟨_, rfl, _, _, rfl, rfl, _, rfl, ?_⟩
        by_cases hw : (12 : Int) < (weigh (wts pl) s : Nat)
        · refine yes (by simpa using hw) ?_
          refine ⟨_, rfl, by show 2 ≤ sizeLine; decide, fun t2 ht2 => ?_⟩
          exact ⟨_, .free, rfl, j7.same n (same_new ht2), ⟨t2, rfl, upd_same⟩, trivial, fun _ => rfl, by have := weigh_free (wts pl); omega⟩
        · exact no (by simpa using hw) ⟨v, s, rfl, j7, mo_st _ _ _ s7 hv, hg, h2, by omega⟩
      clear hv j hg h2 v s H6 H5
      rintro σ' H6 ⟨v, s, rfl, j, hv, hg, h2, hw⟩
      have fit := good_fit gok.nd hg
      -- the way of a line
      refine ⟨fun σ' H' => σ' = [some (.ref D), some (.int m), some (.int 12), some (.ref An), some (.int first), some (.ref Lp), some (.ref Wd), some (.ref Yd), some (.int (i : Nat)), some (.str ns[i]), some v] ∧ PJ D C An Lp Wd Yd ns H pl k1 (if s.word = "line" then (match wayW (wts pl) s with | some n => putK k2 (.inr ns[i]) (.int (n : Nat)) | none => k2) else k2) H' ∧ StA (ns[i], s) H' v, ?_, ?_⟩
      · refine (eg_word (i := 10) rfl hv).run fun u H7 s7 e7 => ?_
        subst e7
        replace j := j.same n s7
        replace hv := mo_st _ _ _ s7 hv
        refine ⟨rfl, _, rfl, ?_⟩
        by_cases hw1 : s.word = "line"
        · refine yes (strYes hw1) ?_
          rw [if_pos hw1]
          obtain ⟨p, q, rfl⟩ := line_of hw1
          obtain ⟨av, rfl, hav⟩ := id hv
          obtain ⟨ep, hp⟩ := fit.1 p (by simp [Stp.of])
          obtain ⟨eq, hq⟩ := fit.1 q (by simp [Stp.of])
          have lk2 := wk.few
          rw [wts_len] at lk2
          refine ⟨_, rfl, _, rfl, av, _, (2 : Nat), .str p, rfl, rfl, SqT.of hav, atI_nat rfl, Wd, _, rfl, wOf_some wk hp ▸ DGet.k (k := .inr p) j.wd, _, rfl, _, rfl, av, _, (3 : Nat), .str q, rfl, rfl, SqT.of hav, atI_nat rfl, Wd, _, rfl, wOf_some wk hq ▸ DGet.k (k := .inr q) j.wd, wOf (wts pl) p, wOf (wts pl) q, rfl, rfl, _, rfl, _, rfl, Yd, _, rfl, DPut.k (k := .inr ns[i]) j.yd (by rw [sizeLine_eq]; omega), rfl, ?_, ?_⟩
          · have := j.putY n (putK k2 (.inr ns[i]) (.int ((wOf (wts pl) p : Nat) + (wOf (wts pl) q : Nat))))
            exact this
          · exact mi_st _ _ _ (SameI.put j.yd (fun z => z)) hv
        · refine no (strNo hw1) ⟨rfl, ?_, hv⟩
          rw [if_neg hw1]
          exact j
      clear hv j H6
      rintro σ' H6 ⟨rfl, j, hv⟩
      refine ⟨fun σ' H' => σ' = [some (.ref D), some (.int m), some (.int 12), some (.ref An), some (.int first), some (.ref Lp), some (.ref Wd), some (.ref Yd), some (.int (i : Nat)), some (.str ns[i]), some v] ∧ PJ D C An Lp Wd Yd ns H pl k1 (match wayW (wts pl) s with | some n => putK k2 (.inr ns[i]) (.int (n : Nat)) | none => k2) H' ∧ StA (ns[i], s) H' v, ?_, ?_⟩
      · refine (eg_word (i := 10) rfl hv).run fun u H7 s7 e7 => ?_
        subst e7
        replace j := j.same n s7
        replace hv := mo_st _ _ _ s7 hv
        refine ⟨by show 2 ≤ sizeLine; decide, fun t ht => ?_⟩
        have s8 := same_new (o := .tup [.str "along", .str "upright"]) ht
        refine ⟨t, [.str "along", .str "upright"], rfl, .inr (SqT.of upd_same), rfl, rfl, _, rfl, ?_⟩
        replace j := j.same n s8
        replace hv := mo_st _ _ _ s8 hv
        generalize upd H7 t (.tup [.str "along", .str "upright"]) = H8 at j hv ⊢
        rcases st_au s with ⟨b, p, l, rfl, hb, hin, hw1⟩ | ⟨hin, hno⟩
        · refine yes hin ?_
          rw [if_neg hw1] at j
          obtain ⟨av, rfl, hav⟩ := id hv
          obtain ⟨e, nn, he⟩ : ∃ e n, wLook (wts pl) l = some (e, some n) := by
            have h := fit.2
            rcases hb with rfl | rfl <;> exact h
          have ey : valV k2 (.inr l) = some (V.int (nn : Nat)) := by
            rw [wk.y, he]
            rfl
          have ew : wayW (wts pl) (.two b p l) = some nn := by
            have e2 := (wLook_of he).2
            rcases hb with rfl | rfl <;> exact congrArg some e2
          have lk2 := wk.few
          rw [wts_len] at lk2
          rw [ew]
          refine ⟨_, rfl, _, rfl, av, _, (3 : Nat), .str l, rfl, rfl, SqT.of hav, atI_nat rfl, Yd, _, rfl, ey ▸ DGet.k (k := .inr l) j.yd, _, rfl, _, rfl, Yd, _, rfl, DPut.k (k := .inr ns[i]) j.yd (by rw [sizeLine_eq]; omega), rfl, j.putY n _, ?_⟩
          exact mi_st _ _ _ (SameI.put j.yd (fun z => z)) hv
        · refine no hin ⟨rfl, ?_, hv⟩
          by_cases hw1 : s.word = "line"
          · rw [if_pos hw1] at j
            exact j
          · rw [if_neg hw1] at j
            rw [hno hw1]
            exact j
      clear hv j H6
      rintro σ' H6 ⟨rfl, j, hv⟩
      have wr : WtR (wts pl) k1 (match wayW (wts pl) s with | some n => putK k2 (.inr ns[i]) (.int (n : Nat)) | none => k2) := by
        split
        · exact wk.r.put wx
        · exact wk.r
      refine (run_weigh j.wd j.yd wr hv fit rfl rfl rfl).run fun u H7 s7 e7 => ?_
      obtain rfl : u = .int (weigh (wts pl) s : Nat) := e7
      replace j := j.same n s7
      replace hv := mo_st _ _ _ s7 hv
      have lk1 := wk.len
      rw [wts_len] at lk1
      refine ⟨_, rfl, _, rfl, Wd, _, rfl, DPut.k (k := .inr ns[i]) j.wd (by rw [sizeLine_eq]; omega), ?_⟩
      have hv8 := mi_st _ _ _ (SameI.put (o' := .dK (putK k1 (.inr ns[i]) (.int (weigh (wts pl) s : Nat)))) j.wd (fun z => z)) hv
      replace j := j.putW n (putK k1 (.inr ns[i]) (.int (weigh (wts pl) s : Nat)))
      obtain ⟨vs, hv1, hv2⟩ := id j.lp
      refine ⟨_, rfl, .inl ⟨rfl, _, SqL.of hv1⟩, _, rfl, Lp, vs, v, rfl, rfl, hv1, by rw [sizeLine_eq, hv2.1]; omega, ?_⟩
      refine ⟨pl ++ [(ns[i], s)], _, _, _, _, _, rfl, j.snoc n hv8 hv1 hv2, ?_, gok.snoc hx hz hg hw h2, ?_, by simp [hl]⟩
      · rw [wts_snoc]
        exact wk.add wx rfl
      · rw [List.take_succ_eq_append_getElem lt, ← hn]
        simp [Pl.names]
    · obtain ⟨pl, k1, k2, x8, x9, x10, rfl, j, wk, gok, hn, hl⟩ := h
      obtain ⟨vs, hv1, hv2⟩ := j.lp
      rw [List.length_map, nl] at hl
      refine ⟨_, rfl, Lp, vs, rfl, .inl ⟨SqL.of hv1, fun l hl2 => ?_⟩⟩
      have s7 := same_new (o := .tup vs) hl2
      exact k _ pl _ (j.kp.trans (KpD.of s7)) (j.dk.same s7) ⟨l, vs, rfl, upd_same, hv2.same (fun _ => mo_st) s7⟩ gok hl
end
end Ph
set_option linter.all false
set_option maxRecDepth 100000
set_option maxHeartbeats 40000000
set_option exponentiation.threshold 500
namespace Ph
open PySem PySem.Spec PyProof.Rows L2 LamX
open C8 (pss_cut)
/-! ### numbers -/
def kv3 : List (Key × V) := [(.inr "free", .int 2), (.inr "on", .int 1), (.inr "round", .int 1)]
theorem kv3_merge : mergeK [] kv3 = kv3 := by
  have e1 : ("on" : Str) ≠ "free" := by decide +kernel
  have e2 : ("round" : Str) ≠ "free" := by decide +kernel
  have e3 : ("round" : Str) ≠ "on" := by decide +kernel
  simp [kv3, mergeK, putK, e1, e2, e3, Ne.symm e1, Ne.symm e2, Ne.symm e3]
theorem kv3_b : ∀ b : Bn, valV kv3 (.inr b.word) = none := by
  intro b
  cases b <;> decide +kernel
theorem kv3_s (s : Stp) : (valV kv3 (.inr s.word)).getD (.int 0) = .int (s.takes : Nat) := by
  cases s with
  | two b x y => rw [show Stp.word (.two b x y) = b.word from rfl, kv3_b]; rfl
  | free => show (valV kv3 (.inr "free")).getD (.int 0) = .int (2 : Nat); decide +kernel
  | on l => show (valV kv3 (.inr "on")).getD (.int 0) = .int (1 : Nat); decide +kernel
  | round c => show (valV kv3 (.inr "round")).getD (.int 0) = .int (1 : Nat); decide +kernel
  | turn p q k => show (valV kv3 (.inr "turn")).getD (.int 0) = .int (0 : Nat); decide +kernel
  | other l c p => show (valV kv3 (.inr "other")).getD (.int 0) = .int (0 : Nat); decide +kernel
def QA (q : Rat) : Ap := fun H v => TwQ H v q
theorem mi_qa {q : Rat} : MoI (QA q) := fun _ _ _ s ⟨a, e, h⟩ => ⟨a, e, s _ _ h True.intro⟩
def manyN (pl : Pl) : List Int := pl.map fun s => ((s.2.takes : Nat) : Int)
def allN (pl : Pl) : Nat := (pl.map fun s => s.2.takes).sum
theorem many_sum : ∀ pl : Pl, (manyN pl).sum = ((allN pl : Nat) : Int)
  | [] => rfl
  | s :: r => by
    have ih := many_sum r
    unfold manyN allN at *
    simp only [List.map_cons, List.sum_cons, ih]
    omega
theorem all_le : ∀ pl : Pl, allN pl ≤ 2 * pl.length
  | [] => Nat.le_refl _
  | (x, s) :: r => by
    have ih := all_le r
    unfold allN at *
    have h2 : s.takes ≤ 2 := by cases s <;> simp [Stp.takes]
    simp only [List.map_cons, List.sum_cons, List.length_cons]
    omega
section
variable {P : Program} {w : World} {K : PySem.W.Frag} {mg : Str → Option Value} {base : Heap} {CE CN CR : Addr}
abbrev s__law_many : Stmt := top 90
theorem sc__law_many : FnScope ["_law_plan_here", "_law_step"] ["_law_plan_here"] (defScope s__law_many) := ⟨rfl, rfl, rfl, by decide +kernel, rfl, by decide +kernel, by decide +kernel⟩
abbrev tKv3 : TE := tDisp [(tC (.str "free"), tC (.int 2)), (tC (.str "on"), tC (.int 1)), (tC (.str "round"), tC (.int 1))]
def spMany : Sp := fun vs H Q _ => ∃ (v : V) (pl : Pl), vs = [v] ∧ PlA pl H v ∧ pl.length ≤ 100 ∧ ∀ p H', Same H H' → H' p = some (.lst ((manyN pl).map V.int)) → Q (.ref p) H'
theorem run_kv3 {σ : L2.St} {H : Hp} {i : Nat} {v : V} {x : Str} {s : Stp} {Q : VK} (h : σ[i]? = some (some v)) (hv : StA (x, s) H v) (q : ∀ H', Same H H' → Q (.int (s.takes : Nat)) H') : tDGet2 tKv3 (tOp (rIxT K) (tVar i) (tC (.int 0))) (tC (.int 0)) σ H Q := by
  refine fun p hp => ⟨upd_same, kv3, rfl, by show 3 ≤ 15; decide, ?_⟩
  have s1 : Same H (upd (upd H p (.dK [])) p (.dK (mergeK [] kv3))) := same_put (same_new hp) hp
  have e1 : upd (upd H p (.dK [])) p (.dK (mergeK [] kv3)) p = some (.dK kv3) := by rw [upd_same, kv3_merge]
  generalize upd (upd H p (.dK [])) p (.dK (mergeK [] kv3)) = H1 at s1 e1
  refine ⟨p, rfl, .inl ⟨_, .inl e1⟩, (eg_word (i := i) h (mo_st _ _ _ s1 hv)).run fun u H2 s2 e2 => ?_⟩
  subst e2
  refine ⟨_, DGet.k (k := .inr s.word) (s2 _ _ e1), ?_⟩
  rw [kv3_s]
  exact q H2 (s1.trans s2)
theorem ok__law_many (F : FnAt K mg "_law_many" s__law_many) : Cal P w K mg base CX0 1 "_law_many" ["_law_plan_here"] spMany := by
  refine Cal.of0 F sc__law_many (fun _ _ _ _ _ _ us hl => match us, hl with | [_], _ => rfl) (fun vs H Q E h => ?_) (fun f cdv A outer s H vs Q E hr h => ?_)
  · obtain ⟨v, pl, rfl, _⟩ := h
    rfl
  · obtain ⟨v, pl, rfl, hp, hl, q⟩ := h
    have hu : (A.deeper (envOfC "_law_many" (defScope s__law_many) s.heap.objs.size f cdv)).units + 1 < cLine := by
      have := hr.un
      omega
    refine ⟨_, (pss_one (ps_ret (pe_lc (own := [("_law_step", 1)]) (g := gName 1) (te := tDGet2 tKv3 (tOp (rIxT K) (tVar 1) (tC (.int 0))) (tC (.int 0))) (by rfl) sc__law_many.nd (pi_tup (pv 0)) (blkOk_by (own := [("_law_step", 1)]) (N := ["_law_plan_here", "_law_step"]) (sc := defScope s__law_many) (by decide +kernel)) (fun _ _ _ _ _ => (pg_name (i := 1) sc__law_many.nd rfl (by first | exact Or.inl rfl | exact Or.inr rfl))) (fun _ _ _ _ _ => pts_nil) (fun _ _ _ _ _ => (pe_dget2 hu (pe_disp (pps_cons pe_str pe_int (pps_cons pe_str pe_int (pps_cons pe_str pe_int pps_nil))) (by rfl) (by rfl) (fun z => by cases z) (by decide)) (pe_ix ix_tup (pv 1) pe_int (fun _ _ => rfl)) pe_int ⟨by rfl, by rfl, by rfl, by rfl⟩))))), ?_⟩
    obtain ⟨a, ts, rfl, ha, he⟩ := id hp
    refine ⟨_, rfl, a, rfl, ⟨ts, SqT.of ha⟩, fun D hD => ?_⟩
    refine lc_it (walk_tup (K := K)) (fun j Hx => Same H Hx ∧ Hx D = some (.lst ((manyN (pl.take j)).map V.int))) ⟨same_new hD, upd_same⟩ (fun _ _ _ h => SqT.of (h.1 _ _ ha)) (fun j z Hx Hy lj h y => ?_) fun Hx h => ?_
    · obtain ⟨rfl, hz⟩ := y
      obtain ⟨s1, h1⟩ := h
      rw [he.1] at lj
      obtain ⟨x, st, hpj⟩ : ∃ x st, pl[j]? = some (x, st) := ⟨_, _, List.getElem?_eq_getElem lj⟩
      obtain ⟨u, g1, g2⟩ := he.2 j _ hpj
      obtain rfl : u = z := Option.some.inj (g1.symm.trans hz)
      refine ⟨rfl, ?_⟩
      unfold tYes
      refine yes rfl ?_
      refine run_kv3 (i := 1) rfl (mo_st _ _ _ s1 g2) fun H3 s3 => ?_
      refine ⟨_, s3 _ _ h1, by unfold manyN; rw [List.length_map, List.length_map, List.length_take, sizeLine_eq]; omega, same_put (s1.trans s3) hD, ?_⟩
      rw [upd_same, List.take_succ_eq_append_getElem lj, (List.getElem?_eq_some_iff.mp hpj).2]
      simp [manyN]
    · rw [he.1, List.take_length] at h
      exact q D Hx h.1 h.2
abbrev s__law_numbers : Stmt := top 91
theorem sc__law_numbers : FnScope ["_law_deck_here", "_law_plan_here", "_law_k"] ["_law_deck_here", "_law_plan_here"] (defScope s__law_numbers) := ⟨rfl, rfl, rfl, by decide +kernel, rfl, by decide +kernel, by decide +kernel⟩
/-- a list of quotients -/
def QsL (qs : List Rat) (a : Addr) (H : Hp) : Prop := ∃ vs, H a = some (.lst vs) ∧ Each QA qs H vs
theorem QsL.kp {qs : List Rat} {a D C : Addr} {H H' : Hp} (h : QsL qs a H) (d : Deck D C H) (n1 : a ≠ D) (n2 : a ≠ C) (k : KpD D C H H') : QsL qs a H' := let ⟨vs, h1, h2⟩ := h; ⟨vs, k _ _ n1 n2 h1, h2.sameI (fun _ => mi_qa) (k.immI d)⟩
theorem QsL.same {qs : List Rat} {a : Addr} {H H' : Hp} (h : QsL qs a H) (s : Same H H') : QsL qs a H' := let ⟨vs, h1, h2⟩ := h; ⟨vs, s _ _ h1, h2.same (fun _ => mi_qa.mo) s⟩
def spNumbers : Sp := fun vs H Q _ => ∃ (D C : Addr) (v : V) (pl : Pl), vs = [.ref D, v] ∧ PlA pl H v ∧ pl.length ≤ 100 ∧ Deck D C H ∧ ∀ p qs H', KpD D C H H' → Deck D C H' → H p = none → p ≠ D → p ≠ C → QsL qs p H' → qs.length = allN pl → (∀ q ∈ qs, NumB q) → Q (.ref p) H'
theorem ok__law_numbers (B : Bl mg) (c__law_many : Cal P w K mg base CX0 1 "_law_many" ["_law_plan_here"] spMany) (c__law_number : Cal P w K mg base CX0 3 "_law_number" ["_law_deck_here"] spNumber) (F : FnAt K mg "_law_numbers" s__law_numbers) :
    Cal P w K mg base CX0 4 "_law_numbers" ["_law_deck_here", "_law_plan_here"] spNumbers := by
  refine Cal.of0 F sc__law_numbers (fun _ _ _ _ _ _ us hl => match us, hl with | [_, _], _ => rfl) (fun vs H Q E h => ?_) (fun f cdv A outer s H vs Q E hr h => ?_)
  · obtain ⟨D, C, v, pl, rfl, _⟩ := h
    rfl
  · obtain ⟨D, C, v, pl, rfl, hp, hl, dk, k⟩ := h
    refine ⟨_, (pss_one (ps_ret (pe_lc (own := [("_law_k", 2)]) (g := gName 2) (te := tCall spNumber [] E0 (tCons (tVar 0) tNil)) (by rfl) sc__law_numbers.nd (pi_range1 rfl B.range (pa_cons (pe_callB (cr_sum rfl) (by rfl) B.sum (by decide +kernel) (pa_cons (pe_c c__law_many (hr.mono (by omega)) (pa_cons (pv 1) pa_nil)) pa_nil)) pa_nil)) (blkOk_by (own := [("_law_k", 2)]) (N := ["_law_deck_here", "_law_plan_here", "_law_k"]) (sc := defScope s__law_numbers) (by decide +kernel)) (fun _ _ _ _ _ => (pg_name (i := 2) sc__law_numbers.nd rfl (by first | exact Or.inl rfl | exact Or.inr rfl))) (fun _ _ _ _ _ => pts_nil) (fun _ _ _ _ _ => (pe_c c__law_number (hr.mono (by omega)) (pa_cons (pv 0) pa_nil)))))), ?_⟩
    refine ⟨_, rfl, v, pl, rfl, hp, hl, fun p1 H1 s1 hp1 => ⟨p1, _, rfl, SqL.of hp1, ?_⟩⟩
    have al := all_le pl
    refine ⟨_, rfl, by rw [many_sum]; omega, by rw [many_sum]; omega, fun L hL => ?_⟩
    rw [many_sum, Int.toNat_natCast]
    have dk1 := dk.same s1
    obtain ⟨n1, n2⟩ := dk1.neD hL
    have fL := s1.free hL
    refine lc_it (walk_range (lo := 0) (n := allN pl)) (fun j Hx => KpD D C H Hx ∧ Deck D C Hx ∧ ∃ qs, QsL qs L Hx ∧ qs.length = j ∧ ∀ q ∈ qs, NumB q) ⟨(KpD.of s1).new hL, dk1.same (same_new hL), [], ⟨[], upd_same, rfl, fun i x h => by cases h⟩, rfl, fun q h => by cases h⟩ (fun _ _ _ _ => True.intro) (fun j z Hx Hy lj h y => ?_) fun Hx h => ?_
    · obtain ⟨rfl, rfl⟩ := y
      obtain ⟨q1, q2, qs, hq, ql, qz⟩ := h
      refine ⟨rfl, ?_⟩
      refine ⟨_, rfl, D, C, rfl, q2, fun v2 q H3 kp3 dk3 hv2 hq2 => ?_⟩
      obtain ⟨vs, h1, h2⟩ := hq.kp q2 n1 n2 kp3
      have si : SameI H3 (upd H3 L (.lst (vs ++ [v2]))) := SameI.put h1 (fun z => z)
      refine ⟨vs, h1, by rw [h2.1, sizeLine_eq]; omega, (q1.trans kp3).put fL, dk3.keep n1 n2, qs ++ [q], ⟨_, upd_same, (h2.sameI (fun _ => mi_qa) si).snoc (mi_qa _ _ _ si hv2)⟩, by simp [ql], fun r hr => ?_⟩
      rcases List.mem_append.mp hr with h | h
      · exact qz r h
      · rw [List.mem_singleton] at h
        subst h
        exact hq2
    · obtain ⟨q1, q2, qs, hq, ql, qz⟩ := h
      exact k L qs Hx q1 q2 fL n1 n2 hq ql qz
abbrev s__law_hand : Stmt := top 92
theorem sc__law_hand : FnScope ["_law_numbers_here", "_law_top", "_law_bottom"] ["_law_numbers_here"] (defScope s__law_hand) := ⟨rfl, rfl, rfl, by decide +kernel, rfl, by decide +kernel, by decide +kernel⟩
def spHand (CE : Addr) : Sp := fun vs H Q _ => ∃ (a : Addr) (qs : List Rat), vs = [.ref a] ∧ QsL qs a H ∧ qs.length ≤ 1000 ∧ (∀ q ∈ qs, Sm 64 q) ∧ ∀ r H', Same H H' → TupOf (Nm CE) qs H' r → Q r H'
theorem ok__law_hand (B : Bl mg) (X : Mts P w K mg base CE) (F : FnAt K mg "_law_hand" s__law_hand) : Cal P w K mg base CX0 38 "_law_hand" ["_law_numbers_here"] (spHand CE) := by
  refine Cal.of0 F sc__law_hand (fun _ _ _ _ _ _ us hl => match us, hl with | [_], _ => rfl) (fun vs H Q E h => ?_) (fun f cdv A outer s H vs Q E hr h => ?_)
  · obtain ⟨a, qs, rfl, _⟩ := h
    rfl
  · obtain ⟨a, qs, rfl, ⟨ts, ha, he⟩, hl, hz, k⟩ := h
    have M := X.M
    have T := X.T
    refine ⟨_, (pss_one (ps_ret (pe_callTy call_tuple_of (by rfl) B.tuple (by decide +kernel) (pa_cons (pe_lc (own := [("_law_top", 1), ("_law_bottom", 2)]) (g := gTup K 2 (gCons (gName 1) (gCons (gName 2) gNil))) (te := tMake CE (spInit CE) [.int 0, .int 0, .int 1] E0 (tCons (tVar 1) (tCons (tVar 2) tNil))) (by rfl) sc__law_hand.nd (pi_list (pv 0)) (blkOk_by (own := [("_law_top", 1), ("_law_bottom", 2)]) (N := ["_law_numbers_here", "_law_top", "_law_bottom"]) (sc := defScope s__law_hand) (by decide +kernel)) (fun _ _ _ _ _ => (pg_tup rfl (pgs_cons (pg_name (i := 1) sc__law_hand.nd rfl (by first | exact Or.inl rfl | exact Or.inr rfl)) (pgs_cons (pg_name (i := 2) sc__law_hand.nd rfl (by first | exact Or.inl rfl | exact Or.inr rfl)) pgs_nil)))) (fun _ _ _ _ _ => pts_nil) (fun _ _ _ _ _ => (pe_e2 M T (hr.mono (by omega)) (pa_cons (pv 1) (pa_cons (pv 2) pa_nil))))) pa_nil)))), ?_⟩
    have e1 : EG (LsA qs.length (fun i => Nm CE (qs.getD i 0))) (tLc (iList K (tVar 0)) (gTup K 2 (gCons (gName 1) (gCons (gName 2) gNil))) tYes (tMake CE (spInit CE) [.int 0, .int 0, .int 1] E0 (tCons (tVar 1) (tCons (tVar 2) tNil))) [1, 2]) [some (.ref a), none, none] H := by
      refine eg_comp (B := fun i => QA (qs.getD i 0)) (ig_list (fun i => mi_qa.mo) (eg_var rfl (mo_lsA fun i => mi_qa.mo) ⟨a, ts, rfl, ha, he.1, fun i lt => ?_⟩)) (by omega) (fun i => mi_num) (fun i v H2 s2 lt hv => ?_)
      · obtain ⟨y, y1, y2⟩ := he.2 i qs[i] (by simp [lt])
        refine ⟨y, y1, ?_⟩
        show QA (qs.getD i 0) H y
        rw [List.getD_eq_getElem?_getD, List.getElem?_eq_getElem lt]
        exact y2
      · obtain ⟨b, rfl, hb⟩ := id hv
        refine ⟨_, fun Q q => ⟨b, _, rfl, SqT.of hb, rfl, _, _, rfl, _, _, rfl, rfl, q⟩, rfl, ?_⟩
        have z : Sm 64 (qs.getD i 0) := hz _ (by
          rw [List.getD_eq_getElem?_getD, List.getElem?_eq_getElem lt]
          exact List.getElem_mem lt)
        intro H3 s3 Q q
        refine ⟨_, rfl, _, rfl, made_num (t := (qs.getD i 0).num) (b := (qs.getD i 0).den) (R := fun x H' => Q (.ref x) H') (den_pos _) (z.n4 (by decide)) (z.d4 (by decide)) fun x H4 s4 h4 => ?_⟩
        rw [Rat.num_divInt_den] at h4
        exact q _ H4 s4 h4
    refine ret_cb ?_
    refine e1.run fun v H2 s2 ⟨p, xs, e, hp, hn, hb⟩ => ?_
    subst e
    refine ⟨p, xs, rfl, .inl ⟨SqL.of hp, fun l hl2 => ?_⟩⟩
    have s3 := same_new (o := .tup xs) hl2
    refine k _ _ (s2.trans s3) ⟨l, xs, rfl, upd_same, hn, fun i q hi => ?_⟩
    have lt := (List.getElem?_eq_some_iff.mp hi).1
    obtain ⟨y, y1, y2⟩ := hb i lt
    refine ⟨y, y1, ?_⟩
    have y2 : Num CE H2 y (qs.getD i 0) := y2
    rw [List.getD_eq_getElem?_getD, hi] at y2
    exact Num.ext y2 s3
end
end Ph
set_option linter.all false
set_option maxRecDepth 100000
set_option maxHeartbeats 40000000
set_option exponentiation.threshold 500
namespace Ph
open PySem PySem.Spec PyProof.Rows L2 LamX
open C8 (pss_cut)
/-! ### the mirrored plan and its numbers -/
def mirS : Stp → Stp
  | .turn p q k => .turn p q (4 - k)
  | s => s
def mirPl (pl : Pl) : Pl := pl.map fun s => (s.1, mirS s.2)
/-- whether a line's way is turned an odd number of times -/
def OddAt (pl : Pl) : Nat → Str → Bool → Prop
  | 0 => fun _ _ => False
  | d + 1 => fun x b => ∃ (i : Nat) (k : Bn) (u v : Str), pl[i]? = some (x, Stp.two k u v) ∧ ((k = .line ∧ b = false) ∨ (k = .along ∧ OddAt pl d v b) ∨ (k = .upright ∧ OddAt pl d v (!b)))
def ledN (odd : Str → Bool) : Pl → List Rat → List Rat
  | [], _ => []
  | (_, .free) :: r, a :: b :: qs => a :: -b :: ledN odd r qs
  | (_, .round _) :: r, a :: qs => -a :: ledN odd r qs
  | (_, .on l) :: r, a :: qs => (if odd l = true then -a else a) :: ledN odd r qs
  | _ :: r, qs => ledN odd r qs
section
variable {P : Program} {w : World} {K : PySem.W.Frag} {mg : Str → Option Value} {base : Heap} {CE CN CR : Addr}
abbrev s__law_below : Stmt := top 95
theorem sc__law_below : FnScope ["_law_number_here"] ["_law_number_here"] (defScope s__law_below) := ⟨rfl, rfl, rfl, by decide +kernel, rfl, by decide +kernel, by decide +kernel⟩
def spBelow : Sp := fun vs H Q _ => ∃ (v : V) (n d : Int), vs = [v] ∧ Tw H v n d ∧ ∀ u H', Same H H' → Tw H' u (0 - n) d → Q u H'
theorem ok__law_below (F : FnAt K mg "_law_below" s__law_below) : Cal P w K mg base CX0 1 "_law_below" ["_law_number_here"] spBelow := by
  refine Cal.of0 F sc__law_below (fun _ _ _ _ _ _ us hl => match us, hl with | [_], _ => rfl) (fun vs H Q E h => ?_) (fun f cdv A outer s H vs Q E hr h => ?_)
  · obtain ⟨v, n, d, rfl, _⟩ := h
    rfl
  · obtain ⟨v, n, d, rfl, ⟨a, rfl, ha⟩, k⟩ := h
    refine ⟨_, (pss_one (ps_ret (pe_tup (pa_cons (pe_op op_sub pe_int (pe_ix ix_tup (pv 0) pe_int (fun _ _ => rfl))) (pa_cons (pe_ix ix_tup (pv 0) pe_int (fun _ _ => rfl)) pa_nil))))), ?_⟩
    exact ⟨_, rfl, a, _, (0 : Nat), .int n, rfl, rfl, SqT.of ha, atI_nat rfl, 0, n, rfl, rfl, _, rfl, a, _, (1 : Nat), .int d, rfl, rfl, SqT.of ha, atI_nat rfl, by show 2 ≤ sizeLine; decide, fun p hp => k _ _ (same_new hp) ⟨p, rfl, upd_same⟩⟩
theorem below_q {H : Hp} {v : V} {q : Rat} (h : Tw H v (0 - q.num) q.den) : QA (-q) H v := by
  have e : 0 - q.num = (-q).num := by rw [Rat.neg_num, Int.zero_sub]
  rw [e] at h
  exact h
abbrev s__law_step_of : Stmt := top 93
theorem sc__law_step_of : FnScope ["_law_plan_here", "_law_name", "_law_one"] ["_law_plan_here", "_law_name"] (defScope s__law_step_of) := ⟨rfl, rfl, rfl, by decide +kernel, rfl, by decide +kernel, by decide +kernel⟩
def spStepOf : Sp := fun vs H Q _ => ∃ (v : V) (pl : Pl) (i : Nat) (x : Str) (s : Stp), vs = [v, .str x] ∧ PlA pl H v ∧ pl.length ≤ 100 ∧ pl.names.Nodup ∧ pl[i]? = some (x, s) ∧ ∀ u H', Same H H' → StA (x, s) H' u → Q u H'
theorem ok__law_step_of (F : FnAt K mg "_law_step_of" s__law_step_of) : Cal P w K mg base CX0 1 "_law_step_of" ["_law_plan_here", "_law_name"] spStepOf := by
  refine Cal.of0 F sc__law_step_of (fun _ _ _ _ _ _ us hl => match us, hl with | [_, _], _ => rfl) (fun vs H Q E h => ?_) (fun f cdv A outer s H vs Q E hr h => ?_)
  · obtain ⟨v, pl, i, x, s, rfl, _⟩ := h
    rfl
  · obtain ⟨v, pl, i, x, st, rfl, hp, hl, nd, hi, k⟩ := h
    refine ⟨_, (pss_one (ps_ret (pe_ix ix_list (pe_lc (own := [("_law_one", 2)]) (g := gName 2) (te := tVar 2) (tt := tTest (tOp rEq (tOp (rIxT K) (tVar 2) (tC (.int 1))) (tVar 1))) (by rfl) sc__law_step_of.nd (pi_tup (pv 0)) (blkOk_by (own := [("_law_one", 2)]) (N := ["_law_plan_here", "_law_name", "_law_one"]) (sc := defScope s__law_step_of) (by decide +kernel)) (fun _ _ _ _ _ => (pg_name (i := 2) sc__law_step_of.nd rfl (by first | exact Or.inl rfl | exact Or.inr rfl))) (fun _ _ _ _ _ => (pts_one (pt_cmpR op_eq (pe_ix ix_tup (pv 2) pe_int (fun _ _ => rfl)) (pv 1) (by first | exact nomark _ | rfl)))) (fun _ _ _ _ _ => (pv 2))) pe_int (fun _ _ => rfl)))), ?_⟩
    obtain ⟨a, ts, rfl, ha, he⟩ := id hp
    obtain ⟨u0, g0, h0⟩ := he.2 i _ hi
    refine ⟨_, rfl, a, rfl, ⟨ts, SqT.of ha⟩, fun D hD => ?_⟩
    refine lc_it (walk_tup (K := K)) (fun j Hx => Same H Hx ∧ Hx D = some (.lst (if j ≤ i then [] else [u0]))) ⟨same_new hD, upd_same⟩ (fun _ _ _ h => SqT.of (h.1 _ _ ha)) (fun j z Hx Hy lj h y => ?_) fun Hx h => ?_
    · obtain ⟨rfl, hz⟩ := y
      obtain ⟨s1, h1⟩ := h
      rw [he.1] at lj
      obtain ⟨y, t, hpj⟩ : ∃ x st, pl[j]? = some (x, st) := ⟨_, _, List.getElem?_eq_getElem lj⟩
      obtain ⟨u, g1, g2⟩ := he.2 j _ hpj
      obtain rfl : u = z := Option.some.inj (g1.symm.trans hz)
      refine ⟨rfl, ?_⟩
      refine (eg_own (i := 2) rfl (mo_st _ _ _ s1 g2)).run fun u2 H2 s2 e2 => ?_
      subst e2
      refine ⟨_, rfl, rfl, _, rfl, ?_⟩
      have n1 : (pl.map (·.1))[j]? = some y := by simp [hpj]
      have n2 : (pl.map (·.1))[i]? = some x := by simp [hi]
      by_cases e : y = x
      · subst e
        have ej : j = i := (List.getElem?_inj (List.getElem?_eq_some_iff.mp n1).1 nd).mp (n1.trans n2.symm)
        subst ej
        obtain rfl : u0 = u := Option.some.inj (g0.symm.trans g1)
        rw [if_pos (Nat.le_refl _)] at h1
        refine yes (strYes rfl) ⟨_, rfl, [], s2 _ _ h1, by decide, same_put (s1.trans s2) hD, ?_⟩
        rw [upd_same, if_neg (by omega)]
        rfl
      · have ne : j ≠ i := fun z => by
          subst z
          rw [n1] at n2
          exact e (Option.some.inj n2)
        refine no (strNo e) ⟨s1.trans s2, ?_⟩
        rw [s2 _ _ h1]
        congr 3
        exact propext ⟨fun h => by omega, fun h => by omega⟩
    · obtain ⟨s1, h1⟩ := h
      have li := (List.getElem?_eq_some_iff.mp hi).1
      rw [he.1, if_neg (by omega)] at h1
      exact ⟨D, _, (0 : Int), u0, rfl, rfl, SqL.of h1, at0, k u0 Hx s1 (mo_st _ _ _ s1 h0)⟩
abbrev s__law_odd_way : Stmt := top 96
theorem sc__law_odd_way : FnScope ["_law_plan_here", "_law_name", "_law_step"] ["_law_plan_here", "_law_name"] (defScope s__law_odd_way) := ⟨rfl, rfl, rfl, by decide +kernel, rfl, by decide +kernel, by decide +kernel⟩
def spOdd (d : Nat) : Sp := fun vs H Q _ => ∃ (v : V) (pl : Pl) (x : Str) (b : Bool), vs = [v, .str x] ∧ PlA pl H v ∧ pl.length ≤ 100 ∧ pl.names.Nodup ∧ OddAt pl d x b ∧ ∀ H', Same H H' → Q (.bl b) H'
theorem ok__law_odd_way (c__law_step_of : Cal P w K mg base CX0 1 "_law_step_of" ["_law_plan_here", "_law_name"] spStepOf) (F : FnAt K mg "_law_odd_way" s__law_odd_way) : ∀ d : Nat, d ≤ 1000 → Cal P w K mg base CX0 (2 + d) "_law_odd_way" ["_law_plan_here", "_law_name"] (spOdd d)
  | 0, _ => by
    refine Cal.of0 F sc__law_odd_way (fun _ _ _ _ _ _ us hl => match us, hl with | [_, _], _ => rfl) (fun vs H Q E h => ?_) (fun f cdv A outer s H vs Q E hr h => ?_)
    · obtain ⟨v, pl, x, b, rfl, _⟩ := h
      rfl
    · obtain ⟨v, pl, x, b, rfl, _, _, _, h, _⟩ := h
      exact h.elim
  | d + 1, hd => by
    have c__law_odd_way := ok__law_odd_way c__law_step_of F d (by omega)
    refine Cal.of0 F sc__law_odd_way (fun _ _ _ _ _ _ us hl => match us, hl with | [_, _], _ => rfl) (fun vs H Q E h => ?_) (fun f cdv A outer s H vs Q E hr h => ?_)
    · obtain ⟨v, pl, x, b, rfl, _⟩ := h
      rfl
    · obtain ⟨v, pl, x, b, rfl, hp, hl, nd, ho, k⟩ := h
      have hr : Room (2 + d) (A.deeper (envOfC "_law_odd_way" (defScope s__law_odd_way) s.heap.objs.size f cdv)) := hr
      obtain ⟨i, bn, n1, n2, hi, ho⟩ := ho
      refine ⟨_, (pss_cons (ps_set (i := 2) sc__law_odd_way.nd rfl (by first | exact Or.inl rfl | exact Or.inr rfl) (pe_c c__law_step_of (hr.mono (by omega)) (pa_cons (pv 0) (pa_cons (pv 1) pa_nil))))
      (pss_cons (ps_if (pt_cmpR op_eq (pe_ix ix_tup (pv 2) pe_int (fun _ _ => rfl)) pe_str (by first | exact nomark _ | rfl)) (pss_one (ps_ret pe_bl)) pss_nil)
      (pss_one (ps_ret (pe_cmpR op_ne (pe_c c__law_odd_way (hr.mono (by omega)) (pa_cons (pv 0) (pa_cons (pe_ix ix_tup (pv 2) pe_int (fun _ _ => rfl)) pa_nil))) (pe_cmpR op_eq (pe_ix ix_tup (pv 2) pe_int (fun _ _ => rfl)) pe_str (by first | exact nomark _ | rfl)) (by first | exact nomark _ | rfl)))))), ?_⟩
      refine ⟨_, rfl, _, rfl, v, pl, i, x, _, rfl, hp, hl, nd, hi, fun u H1 s1 hu => ?_⟩
      refine gN ?_
      dsimp only
      refine (eg_word (i := 2) rfl hu).run fun u2 H2 s2 e2 => ?_
      subst e2
      have hu2 := mo_st _ _ _ s2 hu
      obtain ⟨a, rfl, ha⟩ := id hu2
      have s12 := s1.trans s2
      refine ⟨rfl, _, rfl, ?_⟩
      rcases ho with ⟨rfl, rfl⟩ | ⟨rfl, ho⟩ | ⟨rfl, ho⟩
      · exact yes (strYes rfl) (k H2 s12)
      · refine no (strNo (show ("along" : Str) ≠ "line" by decide +kernel)) ?_
        refine ⟨_, rfl, _, rfl, a, _, (3 : Nat), .str n2, rfl, rfl, SqT.of ha, atI_nat rfl, v, pl, n2, b, rfl, mo_pl _ _ _ s12 hp, hl, nd, ho, fun H3 s3 => ?_⟩
        refine (eg_word (i := 2) rfl (mo_st _ _ _ s3 hu2)).run fun u3 H4 s4 e4 => ?_
        subst e4
        refine ⟨rfl, ?_⟩
        rw [strNo (show Stp.word (.two .along n1 n2) ≠ "upright" from (show ("along" : Str) ≠ "upright" by decide +kernel))]
        refine ⟨rfl, ?_⟩
        have := k H4 ((s12.trans s3).trans s4)
        cases b <;> exact this
      · refine no (strNo (show ("upright" : Str) ≠ "line" by decide +kernel)) ?_
        refine ⟨_, rfl, _, rfl, a, _, (3 : Nat), .str n2, rfl, rfl, SqT.of ha, atI_nat rfl, v, pl, n2, !b, rfl, mo_pl _ _ _ s12 hp, hl, nd, ho, fun H3 s3 => ?_⟩
        refine (eg_word (i := 2) rfl (mo_st _ _ _ s3 hu2)).run fun u3 H4 s4 e4 => ?_
        subst e4
        refine ⟨rfl, ?_⟩
        rw [strYes (show Stp.word (.two .upright n1 n2) = "upright" from rfl)]
        refine ⟨rfl, ?_⟩
        have := k H4 ((s12.trans s3).trans s4)
        cases b <;> exact this
end
end Ph
set_option linter.all false
set_option maxRecDepth 100000
set_option maxHeartbeats 40000000
set_option exponentiation.threshold 500
namespace Ph
open PySem PySem.Spec PyProof.Rows L2 LamX
open C8 (pss_cut)
theorem turn_of {s : Stp} (h : s.word = "turn") : ∃ p q k, s = .turn p q k := by
  cases s with
  | turn p q k => exact ⟨p, q, k, rfl⟩
  | two b x y => exact absurd h (bw b).2.2.2.1
  | free => exact absurd h (show ("free" : Str) ≠ "turn" by decide +kernel)
  | on l => exact absurd h (show ("on" : Str) ≠ "turn" by decide +kernel)
  | round l => exact absurd h (show ("round" : Str) ≠ "turn" by decide +kernel)
  | other l c p => exact absurd h (show ("other" : Str) ≠ "turn" by decide +kernel)
theorem mirS_not {s : Stp} (h : s.word ≠ "turn") : mirS s = s := by
  cases s with
  | turn p q k => exact absurd rfl h
  | _ => rfl
section
variable {P : Program} {w : World} {K : PySem.W.Frag} {mg : Str → Option Value} {base : Heap} {CE CN CR : Addr}
/-- a tuple told item by item, from a list -/
theorem tup_of_ls {α : Type} {A : α → Ap} {xs : List α} {x0 : α} {H : Hp} {v : V} (h : TpA xs.length (fun i => A (xs.getD i x0)) H v) : TupOf A xs H v := by
  obtain ⟨a, vs, e, ha, hn, hb⟩ := h
  refine ⟨a, vs, e, ha, hn, fun i q hi => ?_⟩
  have lt := (List.getElem?_eq_some_iff.mp hi).1
  obtain ⟨y, y1, y2⟩ := hb i lt
  refine ⟨y, y1, ?_⟩
  have y2 : A (xs.getD i x0) H y := y2
  rw [List.getD_eq_getElem?_getD, hi] at y2
  exact y2
abbrev s__law_plan_led : Stmt := top 97
theorem sc__law_plan_led : FnScope ["_law_plan_here", "_law_step"] ["_law_plan_here"] (defScope s__law_plan_led) := ⟨rfl, rfl, rfl, by decide +kernel, rfl, by decide +kernel, by decide +kernel⟩
def spPlanLed : Sp := fun vs H Q _ => ∃ (v : V) (pl : Pl), vs = [v] ∧ PlA pl H v ∧ pl.length ≤ 100 ∧ (∀ x p q k, (x, Stp.turn p q k) ∈ pl → k ≤ 4) ∧ ∀ u H', Same H H' → PlA (mirPl pl) H' u → Q u H'
theorem ok__law_plan_led (B : Bl mg) (F : FnAt K mg "_law_plan_led" s__law_plan_led) : Cal P w K mg base CX0 1 "_law_plan_led" ["_law_plan_here"] spPlanLed := by
  refine Cal.of0 F sc__law_plan_led (fun _ _ _ _ _ _ us hl => match us, hl with | [_], _ => rfl) (fun vs H Q E h => ?_) (fun f cdv A outer s H vs Q E hr h => ?_)
  · obtain ⟨v, pl, rfl, _⟩ := h
    rfl
  · obtain ⟨v, pl, rfl, hp, hl, h4, k⟩ := h
    refine ⟨_, (pss_one (ps_ret (pe_callTy call_tuple_of (by rfl) B.tuple (by decide +kernel) (pa_cons (pe_lc (own := [("_law_step", 1)]) (g := gName 1) (te := tIf (tTest (tOp rEq (tOp (rIxT K) (tVar 1) (tC (.int 0))) (tC (.str "turn")))) (tOp (rCatT K) (tSl (rSlA K) (tVar 1) tNoPart (tPart (tC (.int 4)))) (tTup (tCons (tOp (rI0 fun i j => .int (i - j)) (tC (.int 4)) (tOp (rIxT K) (tVar 1) (tC (.int 4)))) tNil))) (tVar 1)) (by rfl) sc__law_plan_led.nd (pi_tup (pv 0)) (blkOk_by (own := [("_law_step", 1)]) (N := ["_law_plan_here", "_law_step"]) (sc := defScope s__law_plan_led) (by decide +kernel)) (fun _ _ _ _ _ => (pg_name (i := 1) sc__law_plan_led.nd rfl (by first | exact Or.inl rfl | exact Or.inr rfl))) (fun _ _ _ _ _ => pts_nil) (fun _ _ _ _ _ => (pe_ifExp (pt_cmpR op_eq (pe_ix ix_tup (pv 1) pe_int (fun _ _ => rfl)) pe_str (by first | exact nomark _ | rfl)) (pe_op op_catT (pe_slice sl_tupA (pv 1) po_none (po_some pe_int)) (pe_tup (pa_cons (pe_op op_sub pe_int (pe_ix ix_tup (pv 1) pe_int (fun _ _ => rfl))) pa_nil))) (pv 1)))) pa_nil)))), ?_⟩
    obtain ⟨a, ts, rfl, ha, he⟩ := id hp
    have e1 : EG (LsA (mirPl pl).length (fun i => StA ((mirPl pl).getD i ("", .free)))) (tLc (iTup K (tVar 0)) (gName 1) tYes (tIf (tTest (tOp rEq (tOp (rIxT K) (tVar 1) (tC (.int 0))) (tC (.str "turn")))) (tOp (rCatT K) (tSl (rSlA K) (tVar 1) tNoPart (tPart (tC (.int 4)))) (tTup (tCons (tOp (rI0 fun i j => .int (i - j)) (tC (.int 4)) (tOp (rIxT K) (tVar 1) (tC (.int 4)))) tNil))) (tVar 1)) [1]) [some (.ref a), none] H := by
      have ln : (mirPl pl).length = pl.length := by simp [mirPl]
      refine eg_comp (B := fun i => StA (pl.getD i ("", .free))) (ig_tup (fun i => mo_st) (eg_var rfl (mo_tpA fun i => mo_st) ⟨a, ts, rfl, ha, by rw [he.1, ln], fun i lt => ?_⟩)) (by omega) (fun i => mi_st) (fun i v H2 s2 lt hv => ⟨_, fun Q q => q, rfl, fun H3 s3 Q q => ?_⟩)
      · obtain ⟨y, y1, y2⟩ := he.2 i (pl[i]'(by omega)) (by simp)
        refine ⟨y, y1, ?_⟩
        show StA (pl.getD i ("", .free)) H y
        rw [List.getD_eq_getElem?_getD, List.getElem?_eq_getElem (by omega)]
        exact y2
      · obtain ⟨x, st, hpi⟩ : ∃ x st, pl[i]? = some (x, st) := ⟨_, _, List.getElem?_eq_getElem (by omega)⟩
        have eB : pl.getD i ("", .free) = (x, st) := by rw [List.getD_eq_getElem?_getD, hpi]; rfl
        have eA : (mirPl pl).getD i ("", .free) = (x, mirS st) := by
          rw [List.getD_eq_getElem?_getD]
          simp [mirPl, hpi]
        have hv : StA (x, st) H3 v := mo_st _ _ _ s3 (by rw [← eB]; exact hv)
        rw [eA] at q
        refine (eg_word (i := 1) rfl hv).run fun u H4 s4 e4 => ?_
        subst e4
        have hv4 := mo_st _ _ _ s4 hv
        refine ⟨rfl, _, rfl, ?_⟩
        by_cases hw : st.word = "turn"
        · refine yes (strYes hw) ?_
          obtain ⟨p, o, m, rfl⟩ := turn_of hw
          have m4 := h4 x p o m (List.mem_of_getElem? hpi)
          obtain ⟨b, rfl, hb⟩ := id hv4
          refine ⟨_, rfl, 4, rfl, b, _, rfl, SqT.of hb, fun z => ?_, fun _ t1 ht1 => ?_⟩
          · have := z.2
            exact absurd this (by show ¬ (4 = 5); decide)
          rw [show cutV (stV (x, .turn p o m)) none (some 4) = [.str "turn", .str x, .str p, .str o] from rfl]
          have s5 := same_new (o := .tup [.str "turn", .str x, .str p, .str o]) ht1
          refine ⟨_, rfl, b, _, (4 : Nat), .int (m : Nat), rfl, rfl, SqT.of (s5 _ _ hb), atI_nat rfl, 4, m, rfl, rfl, by show 1 ≤ sizeLine; decide, fun t2 ht2 => ?_⟩
          have s6 := same_new (o := .tup [.int (4 - (m : Int))]) ht2
          refine ⟨t1, t2, [.str "turn", .str x, .str p, .str o], [.int (4 - (m : Int))], rfl, rfl, SqT.of (s6 _ _ upd_same), SqT.of upd_same, (fun z => by cases z), (by show 4 + 1 ≤ sizeLine; decide), (fun z => by cases z), fun _ t3 ht3 => ?_⟩
          refine q _ _ (((s4.trans s5).trans s6).trans (same_new ht3)) ⟨t3, rfl, ?_⟩
          rw [upd_same]
          show _ = some (HO.tup [V.str "turn", .str x, .str p, .str o, .int ((4 - m : Nat) : Int)])
          rw [Int.natCast_sub m4]
          rfl
        · refine no (strNo hw) ⟨_, rfl, q _ _ s4 ?_⟩
          rw [mirS_not hw]
          exact hv4
    refine ret_cb ?_
    refine e1.run fun v H2 s2 ⟨p, xs, e, hp2, hn, hb⟩ => ?_
    subst e
    refine ⟨p, xs, rfl, .inl ⟨SqL.of hp2, fun l hl2 => ?_⟩⟩
    have s3 := same_new (o := .tup xs) hl2
    exact k _ _ (s2.trans s3) (tup_of_ls (A := StA) (x0 := ("", .free)) ⟨l, xs, rfl, upd_same, hn, fun i lt => let ⟨y, y1, y2⟩ := hb i lt; ⟨y, y1, mo_st _ _ _ s3 y2⟩⟩)
end
end Ph
set_option linter.all false
set_option maxRecDepth 100000
set_option maxHeartbeats 40000000
set_option exponentiation.threshold 500
namespace Ph
open PySem PySem.Spec PyProof.Rows L2 LamX
open C8 (pss_cut)
theorem not3 {s : Stp} (h1 : s ≠ .free) (h2 : ∀ l, s ≠ .on l) (h3 : ∀ c, s ≠ .round c) : s.word ≠ "free" ∧ s.word ≠ "round" ∧ s.word ≠ "on" ∧ s.takes = 0 ∧ ∀ odd x r qs, ledN odd ((x, s) :: r) qs = ledN odd r qs := by
  cases s with
  | free => exact absurd rfl h1
  | on l => exact absurd rfl (h2 l)
  | round c => exact absurd rfl (h3 c)
  | turn p q k => exact ⟨wd.2.2.2.1, wd.2.2.2.2.2.1, wd.2.2.2.2.1, rfl, fun _ _ _ _ => rfl⟩
  | other l c p => exact ⟨wd.2.2.2.2.2.2.1, wd.2.2.2.2.2.2.2.2.1, wd.2.2.2.2.2.2.2.1, rfl, fun _ _ _ _ => rfl⟩
  | two b x y => exact ⟨(bw b).1, (bw b).2.2.1, (bw b).2.1, rfl, fun _ _ _ _ => rfl⟩
theorem allN_cons (x : Str) (s : Stp) (r : Pl) : allN ((x, s) :: r) = s.takes + allN r := by simp [allN]
/-- a list whose first item goes -/
theorem Each.pop {α : Type} {A : α → Ap} {q : α} {qs : List α} {H : Hp} {vs : List V} (e : Each A (q :: qs) H vs) : ∃ v ws, vs = v :: ws ∧ A q H v ∧ Each A qs H ws := e.uncons
section
variable {P : Program} {w : World} {K : PySem.W.Frag} {mg : Str → Option Value} {base : Heap} {CE CN CR : Addr}
/-- the two lists between two turns -/
structure LJ (H : Hp) (F L : Addr) (fq rq : List Rat) (H' : Hp) : Prop where
  sm : Same H H'
  fn : H F = none
  ln : H L = none
  ne : F ≠ L
  f : ∃ vs, H' F = some (.lst vs) ∧ Each QA fq H' vs
  l : ∃ vs, H' L = some (.lst vs) ∧ Each QA rq H' vs
theorem LJ.same {H : Hp} {F L : Addr} {fq rq : List Rat} {H1 H2 : Hp} (j : LJ H F L fq rq H1) (s : Same H1 H2) : LJ H F L fq rq H2 :=
  ⟨j.sm.trans s, j.fn, j.ln, j.ne, let ⟨vs, a, b⟩ := j.f; ⟨vs, s _ _ a, b.same (fun _ => mi_qa.mo) s⟩, let ⟨vs, a, b⟩ := j.l; ⟨vs, s _ _ a, b.same (fun _ => mi_qa.mo) s⟩⟩
/-- left.pop(0) -/
theorem LJ.pop {H : Hp} {F L : Addr} {fq rq : List Rat} {q : Rat} {H1 : Hp} (j : LJ H F L fq (q :: rq) H1) : ∃ v ws, H1 L = some (.lst (v :: ws)) ∧ LJ H F L fq rq (upd H1 L (.lst ws)) ∧ QA q (upd H1 L (.lst ws)) v ∧ SameI H1 (upd H1 L (.lst ws)) := by
  obtain ⟨vs, h1, h2⟩ := j.l
  obtain ⟨v, ws, rfl, h3, h4⟩ := h2.uncons
  obtain ⟨us, h5, h6⟩ := j.f
  have si : SameI H1 (upd H1 L (.lst ws)) := SameI.put h1 (fun z => z)
  exact ⟨v, ws, h1, ⟨same_put j.sm j.ln, j.fn, j.ln, j.ne, ⟨us, by rw [upd_ne j.ne]; exact h5, h6.sameI (fun _ => mi_qa) si⟩, ⟨ws, upd_same, h4.sameI (fun _ => mi_qa) si⟩⟩, mi_qa _ _ _ si h3, si⟩
/-- found.append(v) -/
theorem LJ.push {H : Hp} {F L : Addr} {fq rq : List Rat} {q : Rat} {v : V} {H1 : Hp} {vs : List V} (j : LJ H F L fq rq H1) (hv : QA q H1 v) (h1 : H1 F = some (.lst vs)) (h2 : Each QA fq H1 vs) : LJ H F L (fq ++ [q]) rq (upd H1 F (.lst (vs ++ [v]))) := by
  obtain ⟨us, h5, h6⟩ := j.l
  have si : SameI H1 (upd H1 F (.lst (vs ++ [v]))) := SameI.put h1 (fun z => z)
  exact ⟨same_put j.sm j.fn, j.fn, j.ln, j.ne, ⟨_, upd_same, (h2.sameI (fun _ => mi_qa) si).snoc (mi_qa _ _ _ si hv)⟩, ⟨us, by rw [upd_ne (Ne.symm j.ne)]; exact h5, h6.sameI (fun _ => mi_qa) si⟩⟩
/-- found + [v, u] -/
theorem LJ.cat {H : Hp} {F L : Addr} {fq rq : List Rat} {q r : Rat} {v u : V} {H1 : Hp} {vs : List V} {p : Addr} (j : LJ H F L fq rq H1) (hv : QA q H1 v) (hu : QA r H1 u) (h2 : Each QA fq H1 vs) (hp : H1 p = none) : LJ H p L (fq ++ [q, r]) rq (upd H1 p (.lst (vs ++ [v, u]))) := by
  obtain ⟨us, h5, h6⟩ := j.l
  have s := same_new (o := .lst (vs ++ [v, u])) hp
  have e : Each QA (fq ++ [q, r]) (upd H1 p (.lst (vs ++ [v, u]))) (vs ++ [v, u]) := by
    have := ((h2.same (fun _ => mi_qa.mo) s).snoc (mi_qa.mo _ _ _ s hv)).snoc (mi_qa.mo _ _ _ s hu)
    rw [List.append_assoc, List.append_assoc] at this
    exact this
  exact ⟨j.sm.trans s, j.sm.free hp, j.ln, Ne.symm (ne_of_none h5 hp), ⟨_, upd_same, e⟩, ⟨us, s _ _ h5, h6.same (fun _ => mi_qa.mo) s⟩⟩
theorem run_pop {H : Hp} {F L : Addr} {fq rq : List Rat} {q : Rat} {H1 : Hp} {σ : L2.St} {Q : VK} (j : LJ H F L fq (q :: rq) H1) (h : σ[3]? = some (some (.ref L))) (k : ∀ v H2, LJ H F L fq rq H2 → QA q H2 v → SameI H1 H2 → Q v H2) : tBM K "list" rPopAt (tVar 3) (tCons (tC (.int 0)) tNil) σ H1 Q := by
  obtain ⟨v, ws, h1, h2, h3, h4⟩ := j.pop
  exact ⟨_, h, .inl ⟨rfl, _, SqL.of h1⟩, L, _, 0, 0, v, rfl, rfl, h1, by decide, by decide, seq0, rfl, k v _ h2 h3 h4⟩
abbrev s__law_numbers_led : Stmt := top 98
theorem sc__law_numbers_led : FnScope ["_law_plan_here", "_law_numbers_here", "_law_found", "_law_left", "_law_step", "_law_t"] ["_law_plan_here", "_law_numbers_here"] (defScope s__law_numbers_led) := ⟨rfl, rfl, rfl, by decide +kernel, rfl, by decide +kernel, by decide +kernel⟩
def spNumLed (d : Nat) : Sp := fun vs H Q _ => ∃ (v : V) (a : Addr) (pl : Pl) (qs : List Rat) (odd : Str → Bool), vs = [v, .ref a] ∧ PlA pl H v ∧ QsL qs a H ∧ pl.length ≤ 100 ∧ pl.names.Nodup ∧ qs.length = allN pl ∧ (∀ x l, (x, Stp.on l) ∈ pl → OddAt pl d l (odd l)) ∧
  ∀ p H', Same H H' → H p = none → QsL (ledN odd pl qs) p H' → Q (.ref p) H'
theorem ok__law_numbers_led {d : Nat} (B : Bl mg) (c__law_below : Cal P w K mg base CX0 1 "_law_below" ["_law_number_here"] spBelow) (c__law_odd_way : Cal P w K mg base CX0 (2 + d) "_law_odd_way" ["_law_plan_here", "_law_name"] (spOdd d)) (F : FnAt K mg "_law_numbers_led" s__law_numbers_led) :
    Cal P w K mg base CX0 (3 + d) "_law_numbers_led" ["_law_plan_here", "_law_numbers_here"] (spNumLed d) := by
  rw [show 3 + d = 2 + d + 1 by omega]
  refine Cal.of0 F sc__law_numbers_led (fun _ _ _ _ _ _ us hl => match us, hl with | [_, _], _ => rfl) (fun vs H Q E h => ?_) (fun f cdv A outer s H vs Q E hr h => ?_)
  · obtain ⟨v, a, pl, qs, odd, rfl, _⟩ := h
    rfl
  · obtain ⟨v, a, pl, qs, odd, rfl, hp, hq, hl, nd, hn, ho, k⟩ := h
    have hr : Room (2 + d) (A.deeper (envOfC "_law_numbers_led" (defScope s__law_numbers_led) s.heap.objs.size f cdv)) := hr
    refine ⟨_, (pss_cons (ps_par (i := 2) (j := 3) (by rfl) sc__law_numbers_led.nd rfl rfl (by decide) rfl rfl (pa_cons (pe_lst pa_nil) (pa_cons (pe_callTy call_list_of (by rfl) B.list (by decide +kernel) (pa_cons (pv 1) pa_nil)) pa_nil)) (by rfl))
      (pss_cons (ps_for PassesOwn.never rfl (pi_tup (pv 0)) (pg_name (i := 4) sc__law_numbers_led.nd rfl (by first | exact Or.inl rfl | exact Or.inr rfl)) (pss_cons (ps_if (pt_cmpR op_eq (pe_ix ix_tup (pv 4) pe_int (fun _ _ => rfl)) pe_str (by first | exact nomark _ | rfl)) (pss_one (ps_set (i := 2) sc__law_numbers_led.nd rfl (by first | exact Or.inl rfl | exact Or.inr rfl) (pe_op op_cat (pv 2) (pe_lst (pa_cons (pe_bm PySem.F.plainAttrs_list PySem.F.slot_list_pop PySem.F.type_list_pop mt_popAt (pv 3) (pa_cons pe_int pa_nil)) (pa_cons (pe_c c__law_below (hr.mono (by omega)) (pa_cons (pe_bm PySem.F.plainAttrs_list PySem.F.slot_list_pop PySem.F.type_list_pop mt_popAt (pv 3) (pa_cons pe_int pa_nil)) pa_nil)) pa_nil)))))) pss_nil)
      (pss_cons (ps_if (pt_cmpR op_eq (pe_ix ix_tup (pv 4) pe_int (fun _ _ => rfl)) pe_str (by first | exact nomark _ | rfl)) (pss_one (ps_expr (pe_bm PySem.F.plainAttrs_list PySem.F.slot_list_append PySem.F.type_list_append mt_append (pv 2) (pa_cons (pe_c c__law_below (hr.mono (by omega)) (pa_cons (pe_bm PySem.F.plainAttrs_list PySem.F.slot_list_pop PySem.F.type_list_pop mt_popAt (pv 3) (pa_cons pe_int pa_nil)) pa_nil)) pa_nil)))) pss_nil)
      (pss_one (ps_if (pt_cmpR op_eq (pe_ix ix_tup (pv 4) pe_int (fun _ _ => rfl)) pe_str (by first | exact nomark _ | rfl)) (pss_cons (ps_set (i := 5) sc__law_numbers_led.nd rfl (by first | exact Or.inl rfl | exact Or.inr rfl) (pe_bm PySem.F.plainAttrs_list PySem.F.slot_list_pop PySem.F.type_list_pop mt_popAt (pv 3) (pa_cons pe_int pa_nil)))
      (pss_one (ps_expr (pe_bm PySem.F.plainAttrs_list PySem.F.slot_list_append PySem.F.type_list_append mt_append (pv 2) (pa_cons (pe_ifExp (pt_val (pe_c c__law_odd_way (hr.mono (by omega)) (pa_cons (pv 0) (pa_cons (pe_ix ix_tup (pv 4) pe_int (fun _ _ => rfl)) pa_nil)))) (pe_c c__law_below (hr.mono (by omega)) (pa_cons (pv 5) pa_nil)) (pv 5)) pa_nil))))) pss_nil)))))
      (pss_one (ps_ret (pv 2))))), ?_⟩
    obtain ⟨pa, ts, rfl, hpa, he⟩ := id hp
    obtain ⟨qv, hqa, hqe⟩ := hq
    refine ⟨Nat.zero_le _, fun F hF => ⟨_, rfl, a, qv, rfl, .inl (SqL.of (same_new hF _ _ hqa)), fun L hL => ⟨_, _, rfl, ?_⟩⟩⟩
    have s1 := same_new (o := .lst []) hF
    have s2 := same_new (o := .lst qv) hL
    have j0 : LJ H F L [] qs (upd (upd H F (.lst [])) L (.lst qv)) := ⟨s1.trans s2, hF, s1.free hL, ne_of_none upd_same hL, ⟨[], s2 _ _ upd_same, rfl, fun i x h => by cases h⟩, ⟨qv, upd_same, hqe.same (fun _ => mi_qa.mo) (s1.trans s2)⟩⟩
    refine ⟨_, rfl, pa, rfl, ⟨ts, SqT.of (j0.sm _ _ hpa)⟩, ?_⟩
    refine for_it (walk_tup (K := K) (xs := ts)) (fun i σ' H' => ∃ F' fq rq x4 x5, σ' = [some (.ref pa), some (.ref a), some (.ref F'), some (.ref L), x4, x5] ∧ LJ H F' L fq rq H' ∧ ledN odd pl qs = fq ++ ledN odd (pl.drop i) rq ∧ rq.length = allN (pl.drop i) ∧ fq.length ≤ 2 * i)
      ⟨F, [], qs, none, none, rfl, j0, rfl, hn, Nat.le_refl _⟩ (fun i σ' H' _ h => ?_) (fun i z σ' H' H3 lt h y => ?_) fun σ' H' h => ?_
    · obtain ⟨_, _, _, _, _, _, j, _⟩ := h
      exact SqT.of (j.sm _ _ hpa)
    · obtain ⟨F', fq, rq, x4, x5, rfl, j, e, rl, fl⟩ := h
      obtain ⟨rfl, hz⟩ := y
      rw [he.1] at lt
      obtain ⟨x, st, hpi⟩ : ∃ x st, pl[i]? = some (x, st) := ⟨_, _, List.getElem?_eq_getElem lt⟩
      obtain ⟨u, g1, g2⟩ := he.2 i _ hpi
      obtain rfl : u = z := Option.some.inj (g1.symm.trans hz)
      have ed : pl.drop i = (x, st) :: pl.drop (i + 1) := by
        rw [List.drop_eq_getElem_cons lt, (List.getElem?_eq_some_iff.mp hpi).2]
      rw [ed] at e rl
      rw [allN_cons] at rl
      have hu : StA (x, st) H3 u := mo_st _ _ _ j.sm g2
      refine gN ?_
      dsimp only
      refine (eg_word (i := 4) rfl hu).run fun u2 H4 s4 e4 => ?_
      subst e4
      replace j := j.same s4
      replace hu := mo_st _ _ _ s4 hu
      refine ⟨rfl, _, rfl, ?_⟩
      have sI : ∀ {Ha Hb : Hp}, SameI Ha Hb → StA (x, st) Ha u → StA (x, st) Hb u := fun s h => mi_st _ _ _ s h
      by_cases hs : st ≠ .free ∧ (∀ l, st ≠ .on l) ∧ ∀ c, st ≠ .round c
      · obtain ⟨w1, w2, w3, t0, le⟩ := not3 hs.1 hs.2.1 hs.2.2
        refine no (strNo w1) ?_
        refine (eg_word (i := 4) rfl hu).run fun u3 H5 s5 e5 => ?_
        subst e5
        refine ⟨rfl, _, rfl, no (strNo w2) ?_⟩
        refine (eg_word (i := 4) rfl (mo_st _ _ _ s5 hu)).run fun u3 H6 s6 e6 => ?_
        subst e6
        refine ⟨rfl, _, rfl, no (strNo w3) ?_⟩
        rw [le] at e
        exact ⟨F', fq, rq, _, _, rfl, j.same (s5.trans s6), e, by omega, by omega⟩
      cases st with
      | free =>
        refine yes (strYes rfl) ?_
        obtain ⟨qa, qb, rq', rfl⟩ : ∃ a b r, rq = a :: b :: r := by
          match rq, rl with
          | a :: b :: r, _ => exact ⟨a, b, r, rfl⟩
          | [_], h => simp [Stp.takes] at h; omega
          | [], h => simp [Stp.takes] at h; omega
        refine ⟨_, rfl, run_pop j rfl fun v1 H5 j5 h5 i5 => run_pop j5 rfl fun v2 H6 j6 h6 i6 => ⟨v2, qb.num, qb.den, rfl, h6, fun v3 H7 s7 h7 => ⟨by show 2 ≤ sizeLine; decide, fun p1 hp1 => ?_⟩⟩⟩
        have s8 := same_new (o := .lst [v1, v3]) hp1
        have j8 := (j6.same s7).same s8
        obtain ⟨vs, f1, f2⟩ := j8.f
        have hv3 : QA (-qb) (upd H7 p1 (.lst [v1, v3])) v3 := mi_qa.mo _ _ _ s8 (below_q h7)
        have hv1 : QA qa (upd H7 p1 (.lst [v1, v3])) v1 := mi_qa _ _ _ (i6.trans ((SameI.of s7).trans (SameI.of s8))) h5
        refine ⟨F', p1, vs, _, rfl, rfl, f1, upd_same, by rw [f2.1, sizeLine_eq]; show _ + 2 ≤ _; omega, fun p2 hp2 => ?_⟩
        have j9 := j8.cat hv1 hv3 f2 hp2
        have hu9 := sI ((((i5.trans i6).trans (SameI.of s7)).trans (SameI.of s8)).trans (SameI.of (same_new (o := .lst (vs ++ [v1, v3])) hp2))) hu
        refine (eg_word (i := 4) rfl hu9).run fun u3 H10 s10 e10 => ?_
        subst e10
        refine ⟨rfl, _, rfl, no (strNo (show ("free" : Str) ≠ "round" by decide +kernel)) ?_⟩
        refine (eg_word (i := 4) rfl (mo_st _ _ _ s10 hu9)).run fun u3 H11 s11 e11 => ?_
        subst e11
        refine ⟨rfl, _, rfl, no (strNo (show ("free" : Str) ≠ "on" by decide +kernel)) ?_⟩
        refine ⟨p2, fq ++ [qa, -qb], rq', _, _, rfl, j9.same (s10.trans s11), ?_, by simp [Stp.takes] at rl; omega, by simp; omega⟩
        rw [e, List.append_assoc]
        rfl
      | round c =>
        refine no (strNo (show ("round" : Str) ≠ "free" by decide +kernel)) ?_
        refine (eg_word (i := 4) rfl hu).run fun u3 H5 s5 e5 => ?_
        subst e5
        refine ⟨rfl, _, rfl, yes (strYes rfl) ?_⟩
        replace j := j.same s5
        obtain ⟨qa, rq', rfl⟩ : ∃ a r, rq = a :: r := by
          match rq, rl with
          | a :: r, _ => exact ⟨a, r, rfl⟩
          | [], h => simp [Stp.takes] at h; omega
        obtain ⟨vs, f1, f2⟩ := j.f
        refine ⟨_, rfl, .inl ⟨rfl, _, SqL.of f1⟩, run_pop j rfl fun v1 H6 j6 h6 i6 => ⟨v1, qa.num, qa.den, rfl, h6, fun v3 H7 s7 h7 => ?_⟩⟩
        have j7 := j6.same s7
        obtain ⟨ws, g1, g2⟩ := j7.f
        refine ⟨F', ws, v3, rfl, rfl, g1, by rw [g2.1, sizeLine_eq]; omega, ?_⟩
        have j8 := j7.push (below_q h7) g1 g2
        have hu8 := sI (((SameI.of s5).trans (i6.trans (SameI.of s7))).trans (SameI.put (o' := .lst (ws ++ [v3])) g1 (fun z => z))) hu
        refine (eg_word (i := 4) rfl hu8).run fun u3 H9 s9 e9 => ?_
        subst e9
        refine ⟨rfl, _, rfl, no (strNo (show ("round" : Str) ≠ "on" by decide +kernel)) ?_⟩
        refine ⟨F', fq ++ [-qa], rq', _, _, rfl, j8.same s9, ?_, by simp [Stp.takes] at rl; omega, by simp; omega⟩
        rw [e, List.append_assoc]
        rfl
      | on l =>
        refine no (strNo (show ("on" : Str) ≠ "free" by decide +kernel)) ?_
        refine (eg_word (i := 4) rfl hu).run fun u3 H5 s5 e5 => ?_
        subst e5
        refine ⟨rfl, _, rfl, no (strNo (show ("on" : Str) ≠ "round" by decide +kernel)) ?_⟩
        refine (eg_word (i := 4) rfl (mo_st _ _ _ s5 hu)).run fun u3 H6 s6 e6 => ?_
        subst e6
        refine ⟨rfl, _, rfl, yes (strYes rfl) ?_⟩
        replace j := j.same (s5.trans s6)
        replace hu := mo_st _ _ _ (s5.trans s6) hu
        obtain ⟨qa, rq', rfl⟩ : ∃ a r, rq = a :: r := by
          match rq, rl with
          | a :: r, _ => exact ⟨a, r, rfl⟩
          | [], h => simp [Stp.takes] at h; omega
        refine run_pop j rfl fun v1 H7 j7 h7 i7 => ?_
        refine gN ?_
        obtain ⟨vs, f1, f2⟩ := j7.f
        obtain ⟨b, rfl, hb⟩ := sI i7 hu
        have hod := ho x l (List.mem_of_getElem? hpi)
        refine ⟨_, rfl, .inl ⟨rfl, _, SqL.of f1⟩, ⟨_, rfl, _, rfl, b, _, (2 : Nat), .str l, rfl, rfl, SqT.of hb, atI_nat rfl, _, pl, l, odd l, rfl, mo_pl _ _ _ j7.sm hp, hl, nd, hod, fun H8 s8 => ⟨_, rfl, ?_⟩⟩⟩
        have j8 := j7.same s8
        have h8 := mi_qa.mo _ _ _ s8 h7
        have fin : ∀ {v3 : V} {r : Rat} {H9 : Hp}, Same H8 H9 → QA r H9 v3 → r = (if odd l = true then -qa else qa) → ∃ ws, H9 F' = some (.lst ws) ∧ ws.length < sizeLine ∧ ∃ fq rq, LJ H F' L fq rq (upd H9 F' (.lst (ws ++ [v3]))) ∧ ledN odd pl qs = fq ++ ledN odd (pl.drop (i + 1)) rq ∧ rq.length = allN (pl.drop (i + 1)) ∧ fq.length ≤ 2 * (i + 1) := by
          intro v3 r H9 s9 hv er
          have j9 := j8.same s9
          obtain ⟨ws, g1, g2⟩ := j9.f
          refine ⟨ws, g1, by rw [g2.1, sizeLine_eq]; omega, fq ++ [r], rq', j9.push hv g1 g2, ?_, by simp [Stp.takes] at rl; omega, by simp; omega⟩
          rw [e, List.append_assoc, er]
          rfl
        cases hodd : odd l with
        | true =>
          refine yes rfl ⟨_, rfl, v1, qa.num, qa.den, rfl, h8, fun v3 H9 s9 h9 => ?_⟩
          obtain ⟨ws, g1, g2, fq', rq2, c1, c2, c3, c4⟩ := fin s9 (below_q h9) (by rw [hodd]; rfl)
          exact ⟨F', ws, v3, rfl, rfl, g1, g2, F', fq', rq2, _, _, rfl, c1, c2, c3, c4⟩
        | false =>
          refine no rfl ⟨_, rfl, ?_⟩
          obtain ⟨ws, g1, g2, fq', rq2, c1, c2, c3, c4⟩ := fin (Same.refl _) h8 (by rw [hodd]; rfl)
          exact ⟨F', ws, v1, rfl, rfl, g1, g2, F', fq', rq2, _, _, rfl, c1, c2, c3, c4⟩
      | turn p q n => exact absurd ⟨(fun z => by cases z), (fun l z => by cases z), fun c z => by cases z⟩ hs
      | other l c p => exact absurd ⟨(fun z => by cases z), (fun l z => by cases z), fun c z => by cases z⟩ hs
      | two bb p q => exact absurd ⟨(fun z => by cases z), (fun l z => by cases z), fun c z => by cases z⟩ hs
    · obtain ⟨F', fq, rq, x4, x5, rfl, j, e, rl, fl⟩ := h
      obtain ⟨vs, h1, h2⟩ := j.f
      rw [he.1, List.drop_length] at e
      have e2 : ledN odd pl qs = fq := by
        rw [e]
        show fq ++ [] = fq
        simp
      exact ⟨_, rfl, k F' H' j.sm j.fn (by rw [e2]; exact ⟨vs, h1, h2⟩)⟩
end
end Ph
set_option linter.all false
set_option maxRecDepth 100000
set_option maxHeartbeats 40000000
set_option exponentiation.threshold 500
namespace Ph
open PySem PySem.Spec PyProof.Rows L2 LamX
open C8 (pss_cut)
/-! ### what is printed -/
/-- a number's two parts -/
def qD (q : Rat) : PyData := .tuple [.int q.num, .int (q.den : Int)]
/-- the value reads as the data, at most n deep -/
def DtA : Nat → PyData → Ap
  | 0 => fun _ _ _ => False
  | n + 1 => fun d H v => (d = .none ∧ v = .non) ∨ (∃ b, d = .bool b ∧ v = .bl b) ∨ (∃ i : Int, d = .int i ∧ v = .int i) ∨ ∃ xs, d = .tuple xs ∧ xs.length ≤ 100 ∧ TupOf (DtA n) xs H v
theorem mi_dt : ∀ {n : Nat} {d : PyData}, MoI (DtA n d)
  | 0, _ => fun _ _ _ _ h => h.elim
  | n + 1, d => fun H H' v s h => by
    rcases h with h | h | h | ⟨xs, h1, h2, h3⟩
    · exact .inl h
    · exact .inr (.inl h)
    · exact .inr (.inr (.inl h))
    · exact .inr (.inr (.inr ⟨xs, h1, h2, mi_tupOf (fun _ => mi_dt) _ _ _ s h3⟩))
section
variable {CE : Addr}
/-- the value is a tree of numbers -/
def TrA (CE : Addr) : Nat → PyData → Ap
  | 0 => fun _ _ _ => False
  | n + 1 => fun d H v => (d = .none ∧ v = .non) ∨ (∃ q, d = qD q ∧ Nm CE q H v) ∨ ∃ xs, d = .tuple xs ∧ xs.length ≤ 100 ∧ TupOf (TrA CE n) xs H v
theorem mi_tr : ∀ {n : Nat} {d : PyData}, MoI (TrA CE n d)
  | 0, _ => fun _ _ _ _ h => h.elim
  | n + 1, d => fun H H' v s h => by
    rcases h with h | ⟨q, h1, h2⟩ | ⟨xs, h1, h2, h3⟩
    · exact .inl h
    · exact .inr (.inl ⟨q, h1, mi_num _ _ _ s h2⟩)
    · exact .inr (.inr ⟨xs, h1, h2, mi_tupOf (fun _ => mi_tr) _ _ _ s h3⟩)
end
theorem cb1 {r : List V → Hp → VK → Prop} {te : TE} {σ : L2.St} {H : Hp} {Q : VK} (h : te σ H fun v H1 => r [v] H1 Q) : tCB r (tCons te tNil) σ H Q := h
/-- a call that is never made -/
theorem Cal.never {P : Program} {w : World} {K : PySem.W.Frag} {mg : Str → Option Value} {base : Heap} {g x : Str} {st : Stmt} {N ps : List Str} (F : FnAs K mg g x st) (S : FnScope N ps (defScope st)) (hb : BindN st x ps) : Cal P w K mg base CX0 1 g ps (fun _ _ _ _ => False) :=
  Cal.of0 F S hb (fun _ _ _ _ h => h.elim) fun _ _ _ _ _ _ _ _ _ _ h => h.elim
structure KitT (K : PySem.W.Frag) : Prop where
  tt : PySem.W.kitOne K (.type "tuple") (.type "tuple") = some true
  it : PySem.W.kitOne K (.type "int") (.type "tuple") = some false
section
variable {P : Program} {w : World} {K : PySem.W.Frag} {mg : Str → Option Value} {base : Heap} {CE CN CR : Addr}
abbrev s__law_shown : Stmt := top 94
theorem sc__law_shown : FnScope ["_law_it", "_law_one"] ["_law_it"] (defScope s__law_shown) := ⟨rfl, rfl, rfl, by decide +kernel, rfl, by decide +kernel, by decide +kernel⟩
def spShown (CE : Addr) (n : Nat) : Sp := fun vs H Q _ => ∃ (v : V) (d : PyData), vs = [v] ∧ TrA CE n d H v ∧ ∀ u H', Same H H' → DtA (n + 1) d H' u → Q u H'
theorem ok__law_shown (T : Tx K mg CE) (Z : KitT K) (B : Bl mg) (F : FnAt K mg "_law_shown" s__law_shown) : ∀ n : Nat, n ≤ 50 → Cal P w K mg base CX0 (1 + n) "_law_shown" ["_law_it"] (spShown CE n)
  | 0, _ => (Cal.never F sc__law_shown fun _ _ _ _ _ _ us hl => match us, hl with | [_], _ => rfl).imp fun _ _ _ _ ⟨_, _, _, h, _⟩ => h
  | n + 1, hn => by
    have c__law_shown := ok__law_shown T Z B F n (by omega)
    refine Cal.of0 F sc__law_shown (fun _ _ _ _ _ _ us hl => match us, hl with | [_], _ => rfl) (fun vs H Q E h => ?_) (fun f cdv A outer s H vs Q E hr h => ?_)
    · obtain ⟨v, d, rfl, _⟩ := h
      rfl
    · obtain ⟨v, d, rfl, h, k⟩ := h
      have hr : Room (1 + n) (A.deeper (envOfC "_law_shown" (defScope s__law_shown) s.heap.objs.size f cdv)) := hr
      refine ⟨_, (pss_cons (ps_if (PW.pt (pw_or (pt_cmp (pc_isN (pv 0))) (pw_or1 (pt_val (pe_callB call_isi (by rfl) B.isinstance (by decide +kernel) (pa_cons (pv 0) (pa_cons (pe_bltn (v := .ty "tuple") (by rfl) B.tuple (by decide +kernel) rfl) pa_nil))))))) (pss_one (ps_ret (pe_ifExp (pt_cmp (pc_isN (pv 0))) pe_non (pe_callTy call_tuple_of (by rfl) B.tuple (by decide +kernel) (pa_cons (pe_lc (own := [("_law_one", 1)]) (g := gName 1)  (by rfl) sc__law_shown.nd (pi_tup (pv 0)) (blkOk_by (own := [("_law_one", 1)]) (N := ["_law_it", "_law_one"]) (sc := defScope s__law_shown) (by decide +kernel)) (fun _ _ _ _ _ => (pg_name (i := 1) sc__law_shown.nd rfl (by first | exact Or.inl rfl | exact Or.inr rfl))) (fun _ _ _ _ _ => pts_nil) (fun _ _ _ _ _ => (pe_c c__law_shown (hr.mono (by omega)) (pa_cons (pv 1) pa_nil)))) pa_nil))))) pss_nil)
      (pss_one (ps_ret (pe_ifExp (pt_cmpR op_eq (pe_fld (pv 0) rfl) pe_int (by first | exact nomark _ | rfl)) (pe_tup (pa_cons (pe_fld (pv 0) rfl) (pa_cons (pe_fld (pv 0) rfl) pa_nil))) pe_str)))), ?_⟩
      rcases h with ⟨rfl, rfl⟩ | ⟨q, rfl, a, dx, rfl, ha⟩ | ⟨xs, rfl, hl, ht⟩
      · refine ⟨_, rfl, _, rfl, yes rfl (yes rfl ⟨_, rfl, _, rfl, yes rfl ?_⟩)⟩
        exact k _ _ (Same.refl _) (.inl ⟨rfl, rfl⟩)
      · refine ⟨_, rfl, _, rfl, no rfl ?_⟩
        refine ⟨_, rfl, _, _, _, _, _, rfl, .ty "tuple", ins_ty T ha, T.notT, _, rfl, no rfl ?_⟩
        refine ⟨_, rfl, a, CE, dx, _, _, rfl, ha, T.cl, T.nS, flS _ _, rfl, _, rfl, yes rfl ?_⟩
        refine ⟨_, rfl, a, CE, dx, _, _, rfl, ha, T.cl, T.nT, flT _ _, _, rfl, a, CE, dx, _, _, rfl, ha, T.cl, T.nB, flB _ _, ?_⟩
        refine ⟨by show 2 ≤ sizeLine; decide, fun p hp => k _ _ (same_new hp) (.inr (.inr (.inr ⟨_, rfl, by show 2 ≤ 100; decide, p, _, rfl, upd_same, rfl, fun i d hi => ?_⟩)))⟩
        match i, hi with
        | 0, hi => exact ⟨_, rfl, by cases hi; exact .inr (.inr (.inl ⟨_, rfl, rfl⟩))⟩
        | 1, hi => exact ⟨_, rfl, by cases hi; exact .inr (.inr (.inl ⟨_, rfl, rfl⟩))⟩
      · obtain ⟨a, ts, rfl, ha, he⟩ := id ht
        refine ⟨_, rfl, _, rfl, no rfl ?_⟩
        refine ⟨_, rfl, _, _, _, _, _, rfl, .ty "tuple", .base (.tup ha), Z.tt, ?_⟩
        refine ⟨_, rfl, ?_⟩
        refine yes rfl ?_
        refine ⟨_, rfl, _, rfl, ?_⟩
        refine no rfl ?_
        refine cb1 ?_
        have e1 : EG (LsA xs.length (fun i => DtA (n + 1) (xs.getD i .none))) (tLc (iTup K (tVar 0)) (gName 1) tYes (tCall (spShown CE n) [] E0 (tCons (tVar 1) tNil)) [1]) [some (.ref a), none] H := by
          refine eg_comp (B := fun i => TrA CE n (xs.getD i .none)) (ig_tup (fun i => mi_tr.mo) (eg_var rfl (mo_tpA fun i => mi_tr.mo) ⟨a, ts, rfl, ha, he.1, fun i lt => ?_⟩)) (by omega) (fun i => mi_dt) (fun i v H2 s2 lt hv => ⟨_, fun Q q => q, rfl, fun H3 s3 Q q => ?_⟩)
          · obtain ⟨y, y1, y2⟩ := he.2 i (xs[i]'lt) (by simp)
            refine ⟨y, y1, ?_⟩
            show TrA CE n (xs.getD i .none) H y
            rw [List.getD_eq_getElem?_getD, List.getElem?_eq_getElem lt]
            exact y2
          · exact ⟨_, rfl, v, _, rfl, mi_tr.mo _ _ _ s3 hv, fun u H4 s4 hu => q u H4 s4 hu⟩
        refine e1.run fun v H2 s2 ⟨p, ys, e, hp2, hn2, hb⟩ => ?_
        subst e
        refine ⟨p, ys, rfl, .inl ⟨SqL.of hp2, fun l hl2 => ?_⟩⟩
        have s3 := same_new (o := .tup ys) hl2
        exact k _ _ (s2.trans s3) (.inr (.inr (.inr ⟨xs, rfl, hl, tup_of_ls (A := DtA (n + 1)) (x0 := .none) ⟨l, ys, rfl, upd_same, hn2, fun i lt => let ⟨y, y1, y2⟩ := hb i lt; ⟨y, y1, mi_dt.mo _ _ _ s3 y2⟩⟩⟩)))
end
end Ph
set_option linter.all false
set_option maxRecDepth 100000
set_option maxHeartbeats 40000000
set_option exponentiation.threshold 500
namespace Ph
open PySem PySem.Spec PyProof.Rows L2 LamX
open C8 (pss_cut)
/-! ### a thing as data, and its mirror image -/
def thD : Option Thg → PyData
  | none => .none
  | some (.pt p) => .tuple [qD p.1, qD p.2]
  | some (.ln l _ _) => .tuple [qD l.1, qD l.2.1, qD l.2.2]
  | some (.ci m p) => .tuple [.tuple [qD m.1, qD m.2], qD (circC m p).2]
def ledD : Option Thg → PyData
  | none => .none
  | some (.pt p) => .tuple [qD p.1, qD (-p.2)]
  | some (.ln l _ _) => if l.1.num ≠ 0 then .tuple [qD l.1, qD (-l.2.1), qD l.2.2] else .tuple [qD l.1, qD l.2.1, qD (-l.2.2)]
  | some (.ci m p) => .tuple [.tuple [qD m.1, qD (-m.2)], qD (circC m p).2]
theorem QA.d {n : Nat} {q : Rat} {H : Hp} {v : V} (h : QA q H v) : DtA (n + 2) (qD q) H v := by
  obtain ⟨a, rfl, ha⟩ := h
  refine .inr (.inr (.inr ⟨_, rfl, by show 2 ≤ 100; decide, a, _, rfl, ha, rfl, fun i d hi => ?_⟩))
  match i, hi with
  | 0, hi => exact ⟨_, rfl, by cases hi; exact .inr (.inr (.inl ⟨_, rfl, rfl⟩))⟩
  | 1, hi => exact ⟨_, rfl, by cases hi; exact .inr (.inr (.inl ⟨_, rfl, rfl⟩))⟩
theorem DtA.tup {n : Nat} {xs : List PyData} {H : Hp} {v : V} (h : DtA (n + 1) (.tuple xs) H v) : TupOf (DtA n) xs H v := by
  rcases h with ⟨h, _⟩ | ⟨b, h, _⟩ | ⟨b, h, _⟩ | ⟨ys, h, _, t⟩
  · cases h
  · cases h
  · cases h
  · cases h
    exact t
theorem DtA.int {n : Nat} {i : Int} {H : Hp} {v : V} (h : DtA n (.int i) H v) : v = .int i := by
  cases n with
  | zero => exact h.elim
  | succ n =>
    rcases h with ⟨h, _⟩ | ⟨b, h, _⟩ | ⟨b, h, e⟩ | ⟨ys, h, _, t⟩
    · cases h
    · cases h
    · cases h
      exact e
    · cases h
theorem DtA.two {n : Nat} {d e : PyData} {H : Hp} {v : V} (h : DtA (n + 1) (.tuple [d, e]) H v) : ∃ a x y, v = .ref a ∧ H a = some (.tup [x, y]) ∧ DtA n d H x ∧ DtA n e H y := by
  obtain ⟨a, vs, rfl, ha, hl, he⟩ := h.tup
  obtain ⟨x, e1, h1⟩ := he 0 d rfl
  obtain ⟨y, e2, h2⟩ := he 1 e rfl
  match vs, hl, e1, e2 with
  | [x', y'], _, e1, e2 =>
    cases e1
    cases e2
    exact ⟨a, x, y, rfl, ha, h1, h2⟩
theorem DtA.three {n : Nat} {d e f : PyData} {H : Hp} {v : V} (h : DtA (n + 1) (.tuple [d, e, f]) H v) : ∃ a x y z, v = .ref a ∧ H a = some (.tup [x, y, z]) ∧ DtA n d H x ∧ DtA n e H y ∧ DtA n f H z := by
  obtain ⟨a, vs, rfl, ha, hl, he⟩ := h.tup
  obtain ⟨x, e1, h1⟩ := he 0 d rfl
  obtain ⟨y, e2, h2⟩ := he 1 e rfl
  obtain ⟨z, e3, h3⟩ := he 2 f rfl
  match vs, hl, e1, e2, e3 with
  | [x', y', z'], _, e1, e2, e3 =>
    cases e1
    cases e2
    cases e3
    exact ⟨a, x, y, z, rfl, ha, h1, h2, h3⟩
theorem DtA.q {n : Nat} {q : Rat} {H : Hp} {v : V} (h : DtA n (qD q) H v) : QA q H v := by
  cases n with
  | zero => exact h.elim
  | succ n =>
    obtain ⟨a, x, y, rfl, ha, h1, h2⟩ := DtA.two h
    obtain rfl := h1.int
    obtain rfl := h2.int
    exact ⟨a, rfl, ha⟩
theorem dt_two {n : Nat} {d e : PyData} {H : Hp} {a : Addr} {x y : V} (ha : H a = some (.tup [x, y])) (h1 : DtA n d H x) (h2 : DtA n e H y) : DtA (n + 1) (.tuple [d, e]) H (.ref a) := by
  refine .inr (.inr (.inr ⟨_, rfl, by show 2 ≤ 100; decide, a, _, rfl, ha, rfl, fun i d hi => ?_⟩))
  match i, hi with
  | 0, hi => exact ⟨_, rfl, by cases hi; exact h1⟩
  | 1, hi => exact ⟨_, rfl, by cases hi; exact h2⟩
theorem dt_three {n : Nat} {d e f : PyData} {H : Hp} {a : Addr} {x y z : V} (ha : H a = some (.tup [x, y, z])) (h1 : DtA n d H x) (h2 : DtA n e H y) (h3 : DtA n f H z) : DtA (n + 1) (.tuple [d, e, f]) H (.ref a) := by
  refine .inr (.inr (.inr ⟨_, rfl, by show 3 ≤ 100; decide, a, _, rfl, ha, rfl, fun i d hi => ?_⟩))
  match i, hi with
  | 0, hi => exact ⟨_, rfl, by cases hi; exact h1⟩
  | 1, hi => exact ⟨_, rfl, by cases hi; exact h2⟩
  | 2, hi => exact ⟨_, rfl, by cases hi; exact h3⟩
section
variable {CE : Addr}
theorem nm_tr {n : Nat} {q : Rat} {H : Hp} {v : V} (h : Nm CE q H v) : TrA CE (n + 1) (qD q) H v := .inr (.inl ⟨q, rfl, h⟩)
theorem tr_two {n : Nat} {d e : PyData} {H : Hp} {a : Addr} {x y : V} (ha : H a = some (.tup [x, y])) (h1 : TrA CE n d H x) (h2 : TrA CE n e H y) : TrA CE (n + 1) (.tuple [d, e]) H (.ref a) := by
  refine .inr (.inr ⟨_, rfl, by show 2 ≤ 100; decide, a, _, rfl, ha, rfl, fun i d hi => ?_⟩)
  match i, hi with
  | 0, hi => exact ⟨_, rfl, by cases hi; exact h1⟩
  | 1, hi => exact ⟨_, rfl, by cases hi; exact h2⟩
theorem th_tr {o : Option Thg} {H : Hp} {v : V} (h : ThO CE o H v) : TrA CE 3 (thD o) H v := by
  match o, h with
  | none, h => exact .inl ⟨rfl, h⟩
  | some (.pt p), h =>
    obtain ⟨a, x, y, rfl, ha, h1, h2⟩ := h
    exact tr_two ha (nm_tr h1) (nm_tr h2)
  | some (.ln l _ _), h =>
    obtain ⟨a, x, y, z, rfl, ha, h1, h2, h3⟩ := h
    refine .inr (.inr ⟨_, rfl, by show 3 ≤ 100; decide, a, _, rfl, ha, rfl, fun i d hi => ?_⟩)
    match i, hi with
    | 0, hi => exact ⟨_, rfl, by cases hi; exact nm_tr h1⟩
    | 1, hi => exact ⟨_, rfl, by cases hi; exact nm_tr h2⟩
    | 2, hi => exact ⟨_, rfl, by cases hi; exact nm_tr h3⟩
  | some (.ci m p), h =>
    obtain ⟨a, x, y, rfl, ha, ⟨b, x1, y1, rfl, hb, h1, h2⟩, h3⟩ := h
    exact tr_two ha (tr_two hb (nm_tr h1) (nm_tr h2)) (nm_tr h3)
theorem ths_tr {ts : List (Option Thg)} {H : Hp} {v : V} (hl : ts.length ≤ 100) (h : TupOf (ThO CE) ts H v) : TrA CE 4 (.tuple (ts.map thD)) H v := by
  obtain ⟨a, vs, rfl, ha, hn, he⟩ := h
  refine .inr (.inr ⟨_, rfl, by simpa using hl, a, vs, rfl, ha, by simpa using hn, fun i d hi => ?_⟩)
  rw [List.getElem?_map] at hi
  cases q : ts[i]? with
  | none =>
    rw [q] at hi
    cases hi
  | some o =>
    rw [q] at hi
    cases hi
    obtain ⟨u, e1, e2⟩ := he i o q
    exact ⟨u, e1, th_tr e2⟩
end
theorem intNe {i : Int} (h : i ≠ 0) : (!decide (V.int i = V.int 0)) = true := by
  rw [decide_eq_false fun z => h (V.int.inj z)]
  rfl
section
variable {P : Program} {w : World} {K : PySem.W.Frag} {mg : Str → Option Value} {base : Heap} {CE CN CR : Addr}
abbrev s__law_thing_led : Stmt := top 99
theorem sc__law_thing_led : FnScope ["_law_it", "_law_a", "_law_b", "_law_c"] ["_law_it"] (defScope s__law_thing_led) := ⟨rfl, rfl, rfl, by decide +kernel, rfl, by decide +kernel, by decide +kernel⟩
def spThingLed : Sp := fun vs H Q _ => ∃ (v : V) (o : Option Thg), vs = [v] ∧ DtA 4 (thD o) H v ∧ ∀ u H', Same H H' → DtA 4 (ledD o) H' u → Q u H'
theorem ok__law_thing_led (Z : KitT K) (B : Bl mg) (c__law_below : Cal P w K mg base CX0 1 "_law_below" ["_law_number_here"] spBelow) (F : FnAt K mg "_law_thing_led" s__law_thing_led) : Cal P w K mg base CX0 2 "_law_thing_led" ["_law_it"] spThingLed := by
  refine Cal.of0 F sc__law_thing_led (fun _ _ _ _ _ _ us hl => match us, hl with | [_], _ => rfl) (fun vs H Q E h => ?_) (fun f cdv A outer s H vs Q E hr h => ?_)
  · obtain ⟨v, o, rfl, _⟩ := h
    rfl
  · obtain ⟨v, o, rfl, h, k⟩ := h
    have hr : Room 1 (A.deeper (envOfC "_law_thing_led" (defScope s__law_thing_led) s.heap.objs.size f cdv)) := hr
    refine ⟨_, (pss_cons (ps_if (pt_cmp (pc_isN (pv 0))) (pss_one (ps_ret pe_non)) pss_nil)
      (pss_cons (ps_if (pt_cmpR op_eq (pe_callB call_len_seq (by rfl) B.len (by decide +kernel) (pa_cons (pv 0) pa_nil)) pe_int (by first | exact nomark _ | rfl)) (pss_cons (ps_asg (pv 0) (pg_tup rfl (pgs_cons (pg_name (i := 1) sc__law_thing_led.nd rfl (by first | exact Or.inl rfl | exact Or.inr rfl)) (pgs_cons (pg_name (i := 2) sc__law_thing_led.nd rfl (by first | exact Or.inl rfl | exact Or.inr rfl)) (pgs_cons (pg_name (i := 3) sc__law_thing_led.nd rfl (by first | exact Or.inl rfl | exact Or.inr rfl)) pgs_nil)))))
      (pss_one (ps_ret (pe_ifExp (pt_cmpR op_ne (pe_ix ix_tup (pv 1) pe_int (fun _ _ => rfl)) pe_int (by first | exact nomark _ | rfl)) (pe_tup (pa_cons (pv 1) (pa_cons (pe_c c__law_below (hr.mono (by omega)) (pa_cons (pv 2) pa_nil)) (pa_cons (pv 3) pa_nil)))) (pe_tup (pa_cons (pv 1) (pa_cons (pv 2) (pa_cons (pe_c c__law_below (hr.mono (by omega)) (pa_cons (pv 3) pa_nil)) pa_nil)))))))) pss_nil)
      (pss_cons (ps_if (pt_val (pe_callB call_isi (by rfl) B.isinstance (by decide +kernel) (pa_cons (pe_ix ix_tup (pe_ix ix_tup (pv 0) pe_int (fun _ _ => rfl)) pe_int (fun _ _ => rfl)) (pa_cons (pe_bltn (v := .ty "tuple") (by rfl) B.tuple (by decide +kernel) rfl) pa_nil)))) (pss_one (ps_ret (pe_tup (pa_cons (pe_tup (pa_cons (pe_ix ix_tup (pe_ix ix_tup (pv 0) pe_int (fun _ _ => rfl)) pe_int (fun _ _ => rfl)) (pa_cons (pe_c c__law_below (hr.mono (by omega)) (pa_cons (pe_ix ix_tup (pe_ix ix_tup (pv 0) pe_int (fun _ _ => rfl)) pe_int (fun _ _ => rfl)) pa_nil)) pa_nil))) (pa_cons (pe_ix ix_tup (pv 0) pe_int (fun _ _ => rfl)) pa_nil))))) pss_nil)
      (pss_one (ps_ret (pe_tup (pa_cons (pe_ix ix_tup (pv 0) pe_int (fun _ _ => rfl)) (pa_cons (pe_c c__law_below (hr.mono (by omega)) (pa_cons (pe_ix ix_tup (pv 0) pe_int (fun _ _ => rfl)) pa_nil)) pa_nil)))))))), ?_⟩
    match o, h, k with
    | none, h, k =>
      obtain rfl : v = .non := h.elim (·.2) fun h => h.elim (fun ⟨b, e, _⟩ => by cases e) fun h => h.elim (fun ⟨b, e, _⟩ => by cases e) fun ⟨xs, e, _⟩ => by cases e
      exact ⟨_, rfl, _, rfl, yes rfl (k _ _ (Same.refl _) (.inl ⟨rfl, rfl⟩))⟩
    | some (.pt p), h, k =>
      obtain ⟨a, x, y, rfl, ha, h1, h2⟩ := DtA.two h
      obtain ⟨a1, rfl, hx⟩ := h1.q
      have hy := h2.q
      refine ⟨_, rfl, _, rfl, no rfl ?_⟩
      refine ⟨_, rfl, a, _, rfl, .inr (SqT.of ha), rfl, _, rfl, no (by rfl) ?_⟩
      refine ⟨_, rfl, a, _, (0 : Nat), _, rfl, rfl, SqT.of ha, atI_nat rfl, a1, _, (0 : Nat), .int p.1.num, rfl, rfl, SqT.of hx, atI_nat rfl, ?_⟩
      refine ⟨_, _, _, _, _, rfl, .ty "tuple", .base (.int _), Z.it, ?_⟩
      refine ⟨_, rfl, no rfl ?_⟩
      refine ⟨_, rfl, a, _, (0 : Nat), _, rfl, rfl, SqT.of ha, atI_nat rfl, _, rfl, a, _, (1 : Nat), y, rfl, rfl, SqT.of ha, atI_nat rfl, y, p.2.num, p.2.den, rfl, hy, fun u H1 s1 hu => ⟨by show 2 ≤ sizeLine; decide, fun b hb => ?_⟩⟩
      have s2 := same_new (o := .tup [V.ref a1, u]) hb
      exact k _ _ (s1.trans s2) (dt_two upd_same (mi_dt.mo _ _ _ (s1.trans s2) h1) (mi_dt.mo _ _ _ s2 (below_q hu).d))
    | some (.ln l b w), h, k =>
      obtain ⟨a, x, y, z, rfl, ha, h1, h2, h3⟩ := DtA.three h
      obtain ⟨a1, rfl, hx⟩ := h1.q
      have hy := h2.q
      have hz := h3.q
      refine ⟨_, rfl, _, rfl, no rfl ?_⟩
      refine ⟨_, rfl, a, _, rfl, .inr (SqT.of ha), rfl, _, rfl, yes (by rfl) ?_⟩
      refine ⟨_, rfl, a, _, rfl, SqT.of ha, rfl, _, _, rfl, _, _, rfl, _, _, rfl, rfl, ?_⟩
      refine ⟨_, rfl, a1, _, (0 : Nat), .int l.1.num, rfl, rfl, SqT.of hx, atI_nat rfl, rfl, ?_⟩
      by_cases e : l.1.num = 0
      · refine ⟨_, rfl, no (by rw [e]; rfl) ?_⟩
        refine ⟨_, rfl, _, rfl, _, rfl, z, l.2.2.num, l.2.2.den, rfl, hz, fun u H1 s1 hu => ⟨by show 3 ≤ sizeLine; decide, fun c hc => ?_⟩⟩
        have s2 := same_new (o := .tup [V.ref a1, y, u]) hc
        refine k _ _ (s1.trans s2) ?_
        show DtA 4 (if l.1.num ≠ 0 then _ else _) _ _
        rw [if_neg (fun z => z e)]
        exact dt_three upd_same (mi_dt.mo _ _ _ (s1.trans s2) h1) (mi_dt.mo _ _ _ (s1.trans s2) h2) (mi_dt.mo _ _ _ s2 (below_q hu).d)
      · refine ⟨_, rfl, yes (intNe e) ?_⟩
        refine ⟨_, rfl, _, rfl, y, l.2.1.num, l.2.1.den, rfl, hy, fun u H1 s1 hu => ⟨_, rfl, by show 3 ≤ sizeLine; decide, fun c hc => ?_⟩⟩
        have s2 := same_new (o := .tup [V.ref a1, u, z]) hc
        refine k _ _ (s1.trans s2) ?_
        show DtA 4 (if l.1.num ≠ 0 then _ else _) _ _
        rw [if_pos e]
        exact dt_three upd_same (mi_dt.mo _ _ _ (s1.trans s2) h1) (mi_dt.mo _ _ _ s2 (below_q hu).d) (mi_dt.mo _ _ _ (s1.trans s2) h3)
    | some (.ci m p), h, k =>
      obtain ⟨a, x, y, rfl, ha, h1, h2⟩ := DtA.two h
      obtain ⟨b, x1, y1, rfl, hb, h3, h4⟩ := DtA.two h1
      obtain ⟨a1, rfl, hx⟩ := h3.q
      have hy := h4.q
      refine ⟨_, rfl, _, rfl, no rfl ?_⟩
      refine ⟨_, rfl, a, _, rfl, .inr (SqT.of ha), rfl, _, rfl, no (by rfl) ?_⟩
      refine ⟨_, rfl, a, _, (0 : Nat), _, rfl, rfl, SqT.of ha, atI_nat rfl, b, _, (0 : Nat), .ref a1, rfl, rfl, SqT.of hb, atI_nat rfl, ?_⟩
      refine ⟨_, _, _, _, _, rfl, .ty "tuple", .base (.tup hx), Z.tt, ?_⟩
      refine ⟨_, rfl, yes rfl ?_⟩
      refine ⟨_, rfl, a, _, (0 : Nat), _, rfl, rfl, SqT.of ha, atI_nat rfl, b, _, (0 : Nat), .ref a1, rfl, rfl, SqT.of hb, atI_nat rfl, ?_⟩
      refine ⟨_, rfl, a, _, (0 : Nat), _, rfl, rfl, SqT.of ha, atI_nat rfl, b, _, (1 : Nat), y1, rfl, rfl, SqT.of hb, atI_nat rfl, y1, m.2.num, m.2.den, rfl, hy, fun u H1 s1 hu => ⟨by show 2 ≤ sizeLine; decide, fun c hc => ?_⟩⟩
      have s2 := same_new (o := .tup [V.ref a1, u]) hc
      refine ⟨_, rfl, a, _, (1 : Nat), y, rfl, rfl, SqT.of (s2 _ _ (s1 _ _ ha)), atI_nat rfl, by show 2 ≤ sizeLine; decide, fun d hd => ?_⟩
      have s3 := same_new (o := .tup [V.ref c, y]) hd
      have s13 := (s1.trans s2).trans s3
      exact k _ _ s13 (dt_two upd_same (dt_two (s3 _ _ upd_same) (mi_dt.mo _ _ _ s13 h3) (mi_dt.mo _ _ _ (s2.trans s3) (below_q hu).d)) (mi_dt.mo _ _ _ s13 h2))
end
end Ph
set_option linter.all false
set_option maxRecDepth 100000
set_option maxHeartbeats 40000000
set_option exponentiation.threshold 500
namespace Ph
open PySem PySem.Spec PyProof.Rows L2 LamX
open C8 (pss_cut)
/-! ### claims -/
def jds : List Jd := [.same, .row, .along, .upright, .alike, .angle, .ring]
abbrev jdWords : List V := [.str "same", .str "row", .str "along", .str "upright", .str "alike", .str "angle", .str "ring"]
theorem jd_words : jdWords = jds.map fun j => V.str j.word := rfl
def kvJ : List (Key × V) := [(.inr "same", .int 2), (.inr "row", .int 3), (.inr "angle", .int 6)]
theorem kvJ_merge : mergeK [] kvJ = kvJ := by
  have e1 : ("row" : Str) ≠ "same" := by decide +kernel
  have e2 : ("angle" : Str) ≠ "same" := by decide +kernel
  have e3 : ("angle" : Str) ≠ "row" := by decide +kernel
  simp [kvJ, mergeK, putK, e1, e2, e3, Ne.symm e1, Ne.symm e2, Ne.symm e3]
theorem kvJ_s : ∀ j ∈ jds, (valV kvJ (.inr j.word)).getD (.int 4) = .int (j.many : Nat) := by
  intro j hj
  have h : j = .same ∨ j = .row ∨ j = .along ∨ j = .upright ∨ j = .alike ∨ j = .angle ∨ j = .ring := by simpa [jds] using hj
  rcases h with rfl | rfl | rfl | rfl | rfl | rfl | rfl
  · show (valV kvJ (.inr "same")).getD (.int 4) = .int (2 : Nat); decide +kernel
  · show (valV kvJ (.inr "row")).getD (.int 4) = .int (3 : Nat); decide +kernel
  · show (valV kvJ (.inr "along")).getD (.int 4) = .int (4 : Nat); decide +kernel
  · show (valV kvJ (.inr "upright")).getD (.int 4) = .int (4 : Nat); decide +kernel
  · show (valV kvJ (.inr "alike")).getD (.int 4) = .int (4 : Nat); decide +kernel
  · show (valV kvJ (.inr "angle")).getD (.int 4) = .int (6 : Nat); decide +kernel
  · show (valV kvJ (.inr "ring")).getD (.int 4) = .int (4 : Nat); decide +kernel
/-- a claim of the law -/
def ClN (pl : Pl) (c : Clm) : Prop := (c.1 ≠ .lies ∧ c.2.length = c.1.many ∧ ∀ y ∈ c.2, y ∈ knownN pl .pt) ∨ (c.1 = .lies ∧ ∃ x y, c.2 = [x, y] ∧ x ∈ knownN pl .pt ∧ (y ∈ knownN pl .ln ∨ y ∈ knownN pl .ci))
def ClsL (cs : List Clm) (a : Addr) (H : Hp) : Prop := ∃ vs, H a = some (.lst vs) ∧ Each ClA cs H vs
abbrev tKvJ : TE := tDisp [(tC (.str "same"), tC (.int 2)), (tC (.str "row"), tC (.int 3)), (tC (.str "angle"), tC (.int 6))]
theorem run_kvJ {σ : L2.St} {H : Hp} {i : Nat} {j : Jd} {Q : VK} (h : σ[i]? = some (some (.str j.word))) (hj : j ∈ jds) (q : ∀ H', Same H H' → Q (.int (j.many : Nat)) H') : tDGet2 tKvJ (tVar i) (tC (.int 4)) σ H Q := by
  refine fun p hp => ⟨upd_same, kvJ, rfl, by show 3 ≤ 15; decide, ?_⟩
  have s1 : Same H (upd (upd H p (.dK [])) p (.dK (mergeK [] kvJ))) := same_put (same_new hp) hp
  have e1 : upd (upd H p (.dK [])) p (.dK (mergeK [] kvJ)) p = some (.dK kvJ) := by rw [upd_same, kvJ_merge]
  generalize upd (upd H p (.dK [])) p (.dK (mergeK [] kvJ)) = H1 at s1 e1
  refine ⟨p, rfl, .inl ⟨_, .inl e1⟩, _, h, _, DGet.k (k := .inr j.word) e1, ?_⟩
  rw [kvJ_s j hj]
  exact q H1 s1
section
variable {P : Program} {w : World} {K : PySem.W.Frag} {mg : Str → Option Value} {base : Heap} {CE CN CR : Addr}
theorem sq_asg {te : TE} {g : TG} {b : TS} {D : Ends} {σ : L2.St} {H : Hp} (h : te σ H fun v H1 => g v σ H1 fun σ2 H2 => b D σ2 H2) : tSeq (tAsg te g) b D σ H := h
/-- n picks from a list of names -/
theorem run_picks {D C L : Addr} {ks : List Str} {n : Nat} {x1 x3 x4 x5 x7 : Option V} {H : Hp} {Q : VK} (n1 : L ≠ D) (n2 : L ≠ C) (hL : H L = some (.lst (ks.map V.str))) (l0 : 0 < ks.length) (l1 : ks.length ≤ 100) (hn : n ≤ 100) (dk : Deck D C H)
    (k : ∀ p H', KpD D C H H' → Deck D C H' → H p = none → ∀ (ys : List Str), H' p = some (.lst (ys.map V.str)) → ys.length = n → (∀ y ∈ ys, y ∈ ks) → Q (.ref p) H') :
    tLc (iRng1 (tCons (tVar 6) tNil)) (gName 7) tYes (tCall (spPick K) [] E0 (tCons (tVar 0) (tCons (tVar 2) tNil))) [7] [some (.ref D), x1, some (.ref L), x3, x4, x5, some (.int (n : Int)), x7] H Q := by
  refine ⟨_, rfl, _, rfl, by omega, by omega, fun G hG => ?_⟩
  rw [Int.toNat_natCast]
  obtain ⟨g1, g2⟩ := dk.neD hG
  refine lc_it (walk_range (lo := 0) (n := n)) (fun j Hx => KpD D C H Hx ∧ Deck D C Hx ∧ ∃ ys : List Str, Hx G = some (.lst (ys.map V.str)) ∧ ys.length = j ∧ ∀ y ∈ ys, y ∈ ks) ⟨KpD.of (same_new hG), dk.same (same_new hG), [], upd_same, rfl, fun y h => by cases h⟩ (fun _ _ _ _ => trivial) (fun j z Hx Hy lj h y => ?_) fun Hx h => ?_
  · obtain ⟨rfl, rfl⟩ := y
    obtain ⟨q1, q2, ys, hy, yl, ym⟩ := h
    refine ⟨rfl, ?_⟩
    unfold tYes
    refine yes rfl ?_
    refine ⟨_, rfl, _, rfl, D, C, L, _, rfl, n1, n2, q1 _ _ n1 n2 hL, by rw [List.length_map]; exact l0, by rw [List.length_map]; omega, q2, fun i y H3 hi kp3 dk3 => ?_⟩
    rw [List.getElem?_map] at hi
    cases e : ks[i]? with
    | none =>
      rw [e] at hi
      cases hi
    | some x =>
      rw [e] at hi
      cases hi
      refine ⟨_, kp3 _ _ g1 g2 hy, by rw [List.length_map, sizeLine_eq]; omega, (q1.trans kp3).put hG, dk3.keep g1 g2, ys ++ [x], by rw [upd_same, List.map_append]; rfl, by simp [yl], fun r hr => ?_⟩
      rcases List.mem_append.mp hr with h | h
      · exact ym r h
      · rw [List.mem_singleton] at h
        subst h
        exact List.mem_of_getElem? e
  · obtain ⟨q1, q2, ys, hy, yl, ym⟩ := h
    exact k G Hx q1 q2 hG ys hy yl ym
abbrev s__law_claims : Stmt := top 100
theorem sc__law_claims : FnScope ["_law_deck_here", "_law_plan_here", "_law_points", "_law_others_here", "_law_found", "_law_word", "_law_many_here", "_law_k"] ["_law_deck_here", "_law_plan_here"] (defScope s__law_claims) := ⟨rfl, rfl, rfl, by decide +kernel, rfl, by decide +kernel, by decide +kernel⟩
def spClaims : Sp := fun vs H Q _ => ∃ (D C : Addr) (v : V) (pl : Pl), vs = [.ref D, v] ∧ PlA pl H v ∧ GenOk pl ∧ pl.length ≤ 100 ∧ 0 < (knownN pl .pt).length ∧ Deck D C H ∧
  ∀ p cs H', KpD D C H H' → Deck D C H' → H p = none → p ≠ D → p ≠ C → ClsL cs p H' → cs.length ≤ 8 → (∀ c ∈ cs, ClN pl c) → Q (.ref p) H'
theorem ok__law_claims (B : Bl mg) (c__law_known : Cal P w K mg base CX0 1 "_law_known" ["_law_plan_here", "_law_sort"] spKnown) (c__law_pick : Cal P w K mg base CX0 2 "_law_pick" ["_law_deck_here", "_law_some"] (spPick K)) (F : FnAt K mg "_law_claims" s__law_claims) :
    Cal P w K mg base CX0 3 "_law_claims" ["_law_deck_here", "_law_plan_here"] spClaims := by
  refine Cal.of0 F sc__law_claims (fun _ _ _ _ _ _ us hl => match us, hl with | [_, _], _ => rfl) (fun vs H Q E h => ?_) (fun f cdv A outer s H vs Q E hr h => ?_)
  · obtain ⟨D, C, v, pl, rfl, _⟩ := h
    rfl
  · obtain ⟨D, C, v, pl, rfl, hp, gok, hl, h0, dk, k⟩ := h
    have hr : Room 2 (A.deeper (envOfC "_law_claims" (defScope s__law_claims) s.heap.objs.size f cdv)) := hr
    have hu : (A.deeper (envOfC "_law_claims" (defScope s__law_claims) s.heap.objs.size f cdv)).units + 1 < cLine := by
      have := hr.un
      omega
    have hu2 : (A.deeper (envOfC "_law_claims" (defScope s__law_claims) s.heap.objs.size f cdv)).units + 64 < cLine := by
      have := hr.un
      omega
    refine ⟨_, (pss_cons (ps_asg (pe_tup (pa_cons (pe_c c__law_known (hr.mono (by omega)) (pa_cons (pv 1) (pa_cons pe_str pa_nil))) (pa_cons (pe_op op_cat (pe_c c__law_known (hr.mono (by omega)) (pa_cons (pv 1) (pa_cons pe_str pa_nil))) (pe_c c__law_known (hr.mono (by omega)) (pa_cons (pv 1) (pa_cons pe_str pa_nil)))) pa_nil))) (pg_tup rfl (pgs_cons (pg_name (i := 2) sc__law_claims.nd rfl (by first | exact Or.inl rfl | exact Or.inr rfl)) (pgs_cons (pg_name (i := 3) sc__law_claims.nd rfl (by first | exact Or.inl rfl | exact Or.inr rfl)) pgs_nil))))
      (pss_cons (ps_set (i := 4) sc__law_claims.nd rfl (by first | exact Or.inl rfl | exact Or.inr rfl) (pe_lst pa_nil))
      (pss_cons (ps_for PassesOwn.never rfl (pi_tup (pe_tup (pa_cons pe_str (pa_cons pe_str (pa_cons pe_str (pa_cons pe_str (pa_cons pe_str (pa_cons pe_str (pa_cons pe_str pa_nil))))))))) (pg_name (i := 5) sc__law_claims.nd rfl (by first | exact Or.inl rfl | exact Or.inr rfl)) (pss_cons (ps_set (i := 6) sc__law_claims.nd rfl (by first | exact Or.inl rfl | exact Or.inr rfl) (pe_dget2 hu (pe_disp (pps_cons pe_str pe_int (pps_cons pe_str pe_int (pps_cons pe_str pe_int pps_nil))) (by rfl) (by rfl) (fun z => by cases z) (by decide)) (pv 5) pe_int ⟨by rfl, by rfl, by rfl, by rfl⟩))
      (pss_one (ps_expr (pe_bm PySem.F.plainAttrs_list PySem.F.slot_list_append PySem.F.type_list_append mt_append (pv 4) (pa_cons (pe_op op_catT (pe_tup (pa_cons (pv 5) pa_nil)) (pe_callTy call_tuple_of (by rfl) B.tuple (by decide +kernel) (pa_cons (pe_lc (own := [("_law_k", 7)]) (g := gName 7) (te := tCall (spPick K) [] E0 (tCons (tVar 0) (tCons (tVar 2) tNil))) (by rfl) sc__law_claims.nd (pi_range1 rfl B.range (pa_cons (pv 6) pa_nil)) (blkOk_by (own := [("_law_k", 7)]) (N := ["_law_deck_here", "_law_plan_here", "_law_points", "_law_others_here", "_law_found", "_law_word", "_law_many_here", "_law_k"]) (sc := defScope s__law_claims) (by decide +kernel)) (fun _ _ _ _ _ => (pg_name (i := 7) sc__law_claims.nd rfl (by first | exact Or.inl rfl | exact Or.inr rfl))) (fun _ _ _ _ _ => pts_nil) (fun _ _ _ _ _ => (pe_c c__law_pick (hr.mono (by omega)) (pa_cons (pv 0) (pa_cons (pv 2) pa_nil))))) pa_nil))) pa_nil))))))
      (pss_cons (ps_if (pt_cmpR (op_neD hu2) (pv 3) (pe_lst pa_nil) (by first | exact nomark _ | rfl)) (pss_one (ps_expr (pe_bm PySem.F.plainAttrs_list PySem.F.slot_list_append PySem.F.type_list_append mt_append (pv 4) (pa_cons (pe_tup (pa_cons pe_str (pa_cons (pe_c c__law_pick (hr.mono (by omega)) (pa_cons (pv 0) (pa_cons (pv 2) pa_nil))) (pa_cons (pe_c c__law_pick (hr.mono (by omega)) (pa_cons (pv 0) (pa_cons (pv 3) pa_nil))) pa_nil)))) pa_nil)))) pss_nil)
      (pss_one (ps_ret (pv 4))))))), ?_⟩
    refine ⟨_, rfl, v, pl, .pt, rfl, PlB.ofT hp, hl, fun p1 H1 s1 f1 hp1 => ?_⟩
    refine ⟨_, rfl, v, pl, .ln, rfl, PlB.ofT (mo_pl _ _ _ s1 hp), hl, fun p2 H2 s2 f2 hp2 => ⟨_, rfl, v, pl, .ci, rfl, PlB.ofT (mo_pl _ _ _ (s1.trans s2) hp), hl, fun p3 H3 s3 f3 hp3 => ?_⟩⟩
    have lk : ∀ kd, (knownN pl kd).length ≤ 100 := fun kd => by
      unfold knownN
      rw [List.length_map]
      exact Nat.le_trans (List.length_filter_le _ _) hl
    have lL := lk .ln
    have lC := lk .ci
    refine ⟨p2, p3, _, _, rfl, rfl, s3 _ _ hp2, hp3, by rw [List.length_map, List.length_map, sizeLine_eq]; omega, fun p4 hp4 => ?_⟩
    rw [← List.map_append]
    have s4 := same_new (o := .lst (((knownN pl .ln) ++ (knownN pl .ci)).map V.str)) hp4
    refine ⟨by show 2 ≤ sizeLine; decide, fun t ht => ?_⟩
    have s5 := same_new (o := .tup [V.ref p1, .ref p4]) ht
    refine ⟨t, _, rfl, SqT.of upd_same, rfl, _, _, rfl, _, _, rfl, rfl, ?_⟩
    refine ⟨Nat.zero_le _, fun F hF => ?_⟩
    have s6 := same_new (o := .lst []) hF
    have sA : Same H1 (upd (upd (upd H3 p4 (.lst (((knownN pl .ln) ++ (knownN pl .ci)).map V.str))) t (.tup [V.ref p1, .ref p4])) F (.lst [])) := ((((s2.trans s3).trans s4).trans s5).trans s6)
    have q4 : upd (upd (upd H3 p4 (.lst (((knownN pl .ln) ++ (knownN pl .ci)).map V.str))) t (.tup [V.ref p1, .ref p4])) F (.lst []) p4 = some (.lst (((knownN pl .ln) ++ (knownN pl .ci)).map V.str)) := s6 _ _ (s5 _ _ upd_same)
    have qF := upd_same (H := upd (upd H3 p4 (.lst (((knownN pl .ln) ++ (knownN pl .ci)).map V.str))) t (.tup [V.ref p1, .ref p4])) (a := F) (o := .lst [])
    have f4 : H p4 = none := (s1.trans (s2.trans s3)).free hp4
    have fF : H F = none := (s1.trans (((s2.trans s3).trans s4).trans s5)).free hF
    have n41 : p4 ≠ F := ne_of_none (s5 _ _ upd_same) hF
    have n1F : p1 ≠ F := ne_of_none ((((s2.trans s3).trans s4).trans s5) _ _ hp1) hF
    generalize upd (upd (upd H3 p4 (.lst (((knownN pl .ln) ++ (knownN pl .ci)).map V.str))) t (.tup [V.ref p1, .ref p4])) F (.lst []) = H6 at sA q4 qF
    have s06 := s1.trans sA
    clear s4 s5 s6 ht hp4 hF hp3 hp2 s2 s3 f2 f3
    refine ⟨by show 7 ≤ sizeLine; decide, fun W hW => ?_⟩
    have sW := same_new (o := .tup jdWords) hW
    have s07 := s06.trans sW
    refine ⟨W, rfl, ⟨jdWords, SqT.of upd_same⟩, ?_⟩
    obtain ⟨m1, m1'⟩ := dk.neD f1
    obtain ⟨m4, m4'⟩ := dk.neD f4
    obtain ⟨mF, mF'⟩ := dk.neD fF
    obtain ⟨mW, mW'⟩ := (dk.same s06).neD hW
    have nWF : W ≠ F := Ne.symm (ne_of_none qF hW)
    have J0 : KpD D C H (upd H6 W (.tup jdWords)) ∧ Deck D C (upd H6 W (.tup jdWords)) ∧ (upd H6 W (.tup jdWords)) p1 = some (.lst ((knownN pl .pt).map V.str)) ∧ (upd H6 W (.tup jdWords)) p4 = some (.lst (((knownN pl .ln) ++ (knownN pl .ci)).map V.str)) ∧ (upd H6 W (.tup jdWords)) W = some (.tup jdWords) ∧ ∃ cs, ClsL cs F (upd H6 W (.tup jdWords)) ∧ cs.length = 0 ∧ ∀ c ∈ cs, ClN pl c :=
      ⟨KpD.of s07, dk.same s07, sW _ _ (sA _ _ hp1), sW _ _ q4, upd_same, [], ⟨[], sW _ _ qF, rfl, fun i x h => by cases h⟩, rfl, fun c h => by cases h⟩
    refine for_it (walk_tup (K := K) (xs := jdWords)) (fun i σ' H' => ∃ x5 x6, σ' = [some (.ref D), some v, some (.ref p1), some (.ref p4), some (.ref F), x5, x6, none] ∧ KpD D C H H' ∧ Deck D C H' ∧ H' p1 = some (.lst ((knownN pl .pt).map V.str)) ∧ H' p4 = some (.lst (((knownN pl .ln) ++ (knownN pl .ci)).map V.str)) ∧ H' W = some (.tup jdWords) ∧ ∃ cs, ClsL cs F H' ∧ cs.length = i ∧ ∀ c ∈ cs, ClN pl c)
      ⟨none, none, rfl, J0⟩ (fun i σ' H' _ h => ?_) (fun i z σ' H' H3 lt h y => ?_) fun σ' H' h => ?_
    · obtain ⟨_, _, _, _, _, _, _, hw, _⟩ := h
      exact SqT.of hw
    · obtain ⟨x5, x6, rfl, kp, dk7, q1, q4, qW, cs, hc, cl, cn⟩ := h
      obtain ⟨rfl, hz⟩ := y
      have lt7 : i < jds.length := lt
      obtain ⟨j, hj⟩ : ∃ j, jds[i]? = some j := ⟨_, List.getElem?_eq_getElem lt7⟩
      have jm := List.mem_of_getElem? hj
      have ez : z = .str j.word := by
        rw [jd_words, List.getElem?_map, hj] at hz
        exact (Option.some.inj hz).symm
      subst ez
      have jn : j.many ≤ 6 ∧ 2 ≤ j.many ∧ j ≠ .lies := by
        have h : j = .same ∨ j = .row ∨ j = .along ∨ j = .upright ∨ j = .alike ∨ j = .angle ∨ j = .ring := by simpa [jds] using jm
        rcases h with rfl | rfl | rfl | rfl | rfl | rfl | rfl <;> exact ⟨by decide, by decide, by decide⟩
      refine gN ?_
      refine sq_asg ?_
      refine run_kvJ (i := 5) (σ := [some (.ref D), some v, some (.ref p1), some (.ref p4), some (.ref F), some (.str j.word), x6, none]) rfl jm fun H4 s4 => ?_
      refine gN ?_
      obtain ⟨vs, hF, hvs⟩ := hc
      refine ⟨_, rfl, .inl ⟨rfl, _, SqL.of (s4 _ _ hF)⟩, ?_⟩
      refine ⟨_, rfl, by show 1 ≤ sizeLine; decide, fun t1 ht1 => ?_⟩
      have s5 := same_new (o := .tup [V.str j.word]) ht1
      have s45 := s4.trans s5
      obtain ⟨mt, mt'⟩ := (dk7.same s4).neD ht1
      refine cb1 (run_picks m1 m1' (s45 _ _ q1) h0 (lk .pt) (by omega) (dk7.same s45) fun p H6 kp6 dk6 fp ys hy yl ym => ⟨p, _, rfl, .inl ⟨SqL.of hy, fun l hl2 => ?_⟩⟩)
      have s7 := same_new (o := .tup (ys.map V.str)) hl2
      have h7 := kp6 _ _ mt mt' upd_same
      refine ⟨t1, l, [.str j.word], _, rfl, rfl, SqT.of (s7 _ _ h7), SqT.of upd_same, (fun z => by cases z), (by rw [List.length_map, yl, sizeLine_eq]; show 1 + _ ≤ _; omega), (fun z => ?_), fun _ t3 ht3 => ?_⟩
      · have := congrArg List.length z
        rw [List.length_map, yl] at this
        have := this.trans (show _ = 0 from rfl)
        omega
      have s8 := same_new (o := .tup ([V.str j.word] ++ ys.map V.str)) ht3
      have kpA : KpD D C H3 _ := ((KpD.of s45).trans kp6).trans (KpD.of (s7.trans s8))
      have siA : SameI H3 _ := (SameI.of s45).trans ((kp6.immI (dk7.same s45)).trans (SameI.of (s7.trans s8)))
      have hF8 := kpA _ _ mF mF' hF
      have dk8 := dk6.same (s7.trans s8)
      have hv := hvs.sameI (fun _ => mi_cl) siA
      have t8 := upd_same (H := upd H6 l (.tup (ys.map V.str))) (a := t3) (o := .tup ([V.str j.word] ++ ys.map V.str))
      have q18 := kpA _ _ m1 m1' q1
      have q48 := kpA _ _ m4 m4' q4
      have qW8 := kpA _ _ mW mW' qW
      generalize upd (upd H6 l (.tup (ys.map V.str))) t3 (.tup ([V.str j.word] ++ ys.map V.str)) = H8 at kpA siA hF8 dk8 hv t8 q18 q48 qW8
      have ln : vs.length = i := hvs.1.trans cl
      have j7 : jds.length = 7 := rfl
      refine ⟨F, _, _, rfl, rfl, hF8, by rw [sizeLine_eq]; omega, ?_⟩
      have si9 : SameI H8 (upd H8 F (.lst (vs ++ [V.ref t3]))) := SameI.put hF8 (fun z => z)
      refine ⟨_, _, rfl, (kp.trans kpA).put fF, dk8.keep mF mF', by rw [upd_ne n1F]; exact q18, by rw [upd_ne n41]; exact q48, by rw [upd_ne nWF]; exact qW8, cs ++ [(j, ys)], ⟨_, upd_same, (hv.sameI (fun _ => mi_cl) si9).snoc ⟨t3, rfl, si9 _ _ t8 trivial⟩⟩, by simp [cl], fun c hc => ?_⟩
      rcases List.mem_append.mp hc with h | h
      · exact cn c h
      · rw [List.mem_singleton] at h
        subst h
        exact .inl ⟨jn.2.2, yl, ym⟩
    · obtain ⟨x5, x6, rfl, kp, dk7, q1, q4, qW, cs, hc, cl, cn⟩ := h
      have cl : cs.length = 7 := cl
      refine ne_strs (i := 3) rfl q4 (fun x hx => ?_) fun H8 s8 => ?_
      · rcases List.mem_append.mp hx with h | h
        · exact gok.so x (known_sub h)
        · exact gok.so x (known_sub h)
      obtain ⟨vs, hF, hvs⟩ := hc
      have kp8 := kp.trans (KpD.of s8)
      have dk8 := dk7.same s8
      replace hF := s8 _ _ hF
      replace hvs := hvs.same (fun _ => mi_cl.mo) s8
      have q1 := s8 _ _ q1
      have q4 := s8 _ _ q4
      by_cases he : ((knownN pl .ln) ++ (knownN pl .ci)).isEmpty = true
      · refine no (by rw [he]; rfl) ?_
        exact ⟨_, rfl, k F cs H8 kp8 dk8 fF mF mF' ⟨vs, hF, hvs⟩ (by omega) cn⟩
      · refine yes (by simpa using he) ?_
        have l0 : 0 < ((knownN pl .ln) ++ (knownN pl .ci)).length := by
          cases h : (knownN pl .ln) ++ (knownN pl .ci) with
          | nil => rw [h] at he; exact absurd rfl he
          | cons _ _ => simp
        have name_of : ∀ {ks : List Str} {i : Nat} {y : V}, (ks.map V.str)[i]? = some y → ∃ l, y = .str l ∧ l ∈ ks := fun {ks i y} h => by
          rw [List.getElem?_map] at h
          cases e : ks[i]? with
          | none => rw [e] at h; cases h
          | some l =>
            rw [e] at h
            exact ⟨l, (Option.some.inj h).symm, List.mem_of_getElem? e⟩
        refine ⟨_, rfl, .inl ⟨rfl, _, SqL.of hF⟩, ?_⟩
        refine ⟨_, rfl, _, rfl, D, C, p1, _, rfl, m1, m1', q1, by rw [List.length_map]; exact h0, by rw [List.length_map]; have := lk .pt; omega, dk8, fun i1 y1 H9 e1 kp9 dk9 => ?_⟩
        obtain ⟨x, rfl, hx⟩ := name_of e1
        refine ⟨_, rfl, _, rfl, D, C, p4, _, rfl, m4, m4', kp9 _ _ m4 m4' q4, by rw [List.length_map]; exact l0, by rw [List.length_map, List.length_append]; omega, dk9, fun i2 y2 H10 e2 kp10 dk10 => ?_⟩
        obtain ⟨y, rfl, hy⟩ := name_of e2
        refine ⟨by show 3 ≤ sizeLine; decide, fun t3 ht3 => ?_⟩
        have s11 := same_new (o := .tup [V.str "at", .str x, .str y]) ht3
        have kpA : KpD D C H8 _ := (kp9.trans kp10).trans (KpD.of s11)
        have siA : SameI H8 _ := ((kp9.immI dk8).trans (kp10.immI dk9)).trans (SameI.of s11)
        have hF8 := kpA _ _ mF mF' hF
        have dk11 := dk10.same s11
        have hv := hvs.sameI (fun _ => mi_cl) siA
        have t8 := upd_same (H := H10) (a := t3) (o := .tup [V.str "at", .str x, .str y])
        generalize upd H10 t3 (.tup [V.str "at", .str x, .str y]) = H11 at kpA siA hF8 dk11 hv t8
        have ln : vs.length = 7 := hvs.1.trans cl
        refine ⟨F, _, _, rfl, rfl, hF8, by rw [sizeLine_eq]; omega, ?_⟩
        have si9 : SameI H11 (upd H11 F (.lst (vs ++ [V.ref t3]))) := SameI.put hF8 (fun z => z)
        refine ⟨_, rfl, k F (cs ++ [(.lies, [x, y])]) _ ((kp8.trans kpA).put fF) (dk11.keep mF mF') fF mF mF' ⟨_, upd_same, (hv.sameI (fun _ => mi_cl) si9).snoc (show ClA (.lies, [x, y]) _ (.ref t3) from ⟨t3, rfl, si9 _ _ t8 trivial⟩)⟩ (by rw [List.length_append]; show _ + 1 ≤ _; omega) (fun c hc => ?_)⟩
        rcases List.mem_append.mp hc with h | h
        · exact cn c h
        · rw [List.mem_singleton] at h
          subst h
          exact .inr ⟨rfl, x, y, rfl, hx, List.mem_append.mp hy⟩
end
end Ph
set_option linter.all false
set_option maxRecDepth 100000
set_option maxHeartbeats 40000000
set_option exponentiation.threshold 5000
namespace Ph
open PySem PySem.Spec PyProof.Rows L2 LamX
/-! ### repr of data with ints below the limit of digits -/
mutual
def lim : PyData → Bool
  | .int i => decide (i.natAbs < 10 ^ 4300)
  | .tuple xs => limAll xs
  | .none => true
  | .bool _ => true
  | .str _ => false
  | .list _ => false
  | .dict _ => false
def limAll : List PyData → Bool
  | [] => true
  | x :: r => lim x && limAll r
end
section
variable {P : Program} {w : World} {h0 : Heap}
/-- repr(i) of such an int -/
theorem reprk_int {a : Int} {t : Tok} {n : Nat} (hn : h0.NoDigits) (lt : a.natAbs < 10 ^ 4300) : ReprK P w [] h0 n (.int a t) (toString a : String) := by
  intro b hb A g E s Q hg _ hu hk q
  have fit : (Str.ofString (toString a)).length ≤ sizeLine := int_text_fits10 lt
  rw [pyReprUnder_leaf (v := .int a t) (Nat.le_trans (Nat.le_add_right _ _) hb) (fun _ e => nomatch e)]
  unfold pyRepr
  refine wpAny_bind ?_
  refine wpAny_pyReprObj_slot (by omega) (typeIs_int s a t) F.slot_int_repr.toG ?_
  refine wpAny_call_entry F.slot_int_repr (typeIs_int s a t) F.entry_int_repr ?_ (F.args_int_repr_1 _)
  unfold Builtin.«int.__repr__»
  show wpAny _ _ (do let r ← Builtin.overDigitLimit? a; _) _ _ s
  refine wpAny_bind (overDigitLimit_any (hn.keeps hk) (fun _ => ?_) (fun ge => absurd lt (Nat.not_lt.mpr ge)))
  exact wpAny_bind (wpAny_mkStr (wpAny_pure ⟨_, rfl, _, _, rfl, wpAny_pure (q s.heap _ fun _ _ e => e)⟩) fit)
/-- a value that is shown as the data -/
structure Shw (P : Program) (w : World) (h0 : Heap) (v : Value) (d : PyData) : Prop where
  rd : ∃ as, Reads h0 v d as
  sh : ∃ bs, ReadAtMost h0 d.depth bs ∧ ReprK P w bs h0 d.depth v d.shown
structure ShwL (P : Program) (w : World) (h0 : Heap) (vs : List Value) (ds : List PyData) : Prop where
  rd : ∃ as, ReadsAll h0 vs ds as
  sh : ∃ bs, ReadAtMost h0 (PyData.depthAll ds) bs ∧ ReprAllK P w bs h0 (PyData.depthAll ds) vs (PyData.shownAll ds)
theorem ShwL.nil : ShwL P w h0 [] [] := ⟨⟨_, .nil⟩, [], (fun _ h => nomatch h), by simp only [PyData.shownAll]; exact .nil⟩
theorem ShwL.cons {v : Value} {d : PyData} {vs : List Value} {ds : List PyData} (x : Shw P w h0 v d) (r : ShwL P w h0 vs ds) : ShwL P w h0 (v :: vs) (d :: ds) := by
  obtain ⟨⟨a1, r1⟩, b1, m1, k1⟩ := x
  obtain ⟨⟨a2, r2⟩, b2, m2, k2⟩ := r
  refine ⟨⟨_, .cons r1 r2⟩, b1 ++ b2, ?_, ?_⟩
  · simp only [PyData.depthAll]
    exact (m1.mono (Nat.le_max_left _ _)).append (m2.mono (Nat.le_max_right _ _))
  · simp only [PyData.depthAll, PyData.shownAll]
    exact .cons ((k1.more fun b h => List.mem_append_left _ h).level_le (Nat.le_max_left _ _)) (k2.more_le (fun b h => List.mem_append_right _ h) (Nat.le_max_right _ _))
theorem ShwL.tup {a : Addr} {its : List Value} {ds : List PyData} (t : IsTup h0 a its.toArray) (r : ShwL P w h0 its ds) : Shw P w h0 (.ref a) (.tuple ds) := by
  obtain ⟨o, e1, e2, n, e3⟩ := t
  obtain ⟨⟨a1, r1⟩, b1, m1, k1⟩ := r
  have rr : Reads h0 (.ref a) (.tuple ds) a1 := .tuple e1 e2 e3 r1
  have na : a ∉ b1 := not_mem_of_deeper rr (by simp only [PyData.depth]; omega) m1
  refine ⟨⟨_, rr⟩, a :: b1, ReadAtMost.cons rr (by simp only [PyData.depth]; omega) m1, ?_⟩
  simp only [PyData.depth, PyData.shown]
  exact ReprK.tuple e1 e2 e3 na k1
end
section
variable {P : Program} {w : World} {H : Hp} {h : Heap}
theorem shw_list {n : Nat} (ih : ∀ (d : PyData) (v : V) (u : Value), DtA n d H v → lim d = true → RelV v u → Shw P w h u d) : ∀ (ds : List PyData) (vs : List V) (us : List Value), Vals vs us → vs.length = ds.length → (∀ (i : Nat) (d : PyData), ds[i]? = some d → ∃ v, vs[i]? = some v ∧ DtA n d H v) → limAll ds = true → ShwL P w h us ds
  | [], [], _, .nil, _, _, _ => .nil
  | d :: ds, v :: vs, _, .cons r rs, hl, he, hm => by
    have hm : (lim d && limAll ds) = true := by rw [limAll] at hm; exact hm
    obtain ⟨m1, m2⟩ := Bool.and_eq_true_iff.mp hm
    obtain ⟨v', e1, e2⟩ := he 0 d rfl
    cases e1
    exact .cons (ih d v _ e2 m1 r) (shw_list ih ds vs _ rs (by simpa using hl) (fun i d hi => he (i + 1) d hi) m2)
  | [], _ :: _, _, _, hl, _, _ => by simp at hl
  | _ :: _, [], _, _, hl, _, _ => by simp at hl
theorem shw_of (hn : h.NoDigits) (hok : HOk P w H h) : ∀ (n : Nat) (d : PyData) (v : V) (u : Value), DtA n d H v → lim d = true → RelV v u → Shw P w h u d
  | 0, _, _, _, z, _, _ => z.elim
  | n + 1, d, v, u, z, m, r => by
    rcases z with ⟨rfl, rfl⟩ | ⟨b, rfl, rfl⟩ | ⟨i, rfl, rfl⟩ | ⟨xs, rfl, _, a, vs, rfl, ha, hl, he⟩
    · obtain rfl : u = .none := r
      exact ⟨⟨_, .none⟩, [], (fun _ h => nomatch h), by simp only [PyData.shown]; exact .of_is ReprIs.none _ _ _⟩
    · obtain rfl : u = .bool b := r
      exact ⟨⟨_, .bool b⟩, [], (fun _ h => nomatch h), by simp only [PyData.shown]; exact .of_is (ReprIs.bool b) _ _ _⟩
    · obtain ⟨t, rfl⟩ : ∃ t, u = .int i t := r
      have lt : i.natAbs < 10 ^ 4300 := by
        rw [lim] at m
        exact of_decide_eq_true m
      exact ⟨⟨_, .int i t⟩, [], (fun _ h => nomatch h), by simp only [PyData.shown, PyData.depth]; exact reprk_int hn lt⟩
    · obtain rfl : u = .ref a := r
      obtain ⟨_, its, rv, tp⟩ := hok a _ ha
      exact ShwL.tup tp (shw_list (fun d v u => shw_of hn hok n d v u) xs vs its rv hl he (by rw [lim] at m; exact m))
theorem dt_depth : ∀ {n : Nat} {d : PyData} {v : V}, DtA n d H v → d.depth ≤ n
  | 0, _, _, z => z.elim
  | n + 1, d, v, z => by
    rcases z with ⟨rfl, rfl⟩ | ⟨b, rfl, rfl⟩ | ⟨i, rfl, rfl⟩ | ⟨xs, rfl, _, a, vs, rfl, ha, hl, he⟩
    · exact Nat.zero_le _
    · exact Nat.zero_le _
    · exact Nat.zero_le _
    · have key : ∀ (ds : List PyData), (∀ d ∈ ds, d.depth ≤ n) → PyData.depthAll ds ≤ n := fun ds => by
        induction ds with
        | nil => intro _; simp [PyData.depthAll]
        | cons d r ih =>
          intro h
          simp only [PyData.depthAll]
          exact Nat.max_le.mpr ⟨h d (by simp), ih fun e he => h e (by simp [he])⟩
      have := key xs fun d hd => by
        obtain ⟨i, hi⟩ := List.mem_iff_getElem?.mp hd
        obtain ⟨v, _, h2⟩ := he i d hi
        exact dt_depth h2
      simp only [PyData.depth]
      omega
end
/-! ### the sizes of the texts -/
theorem qd_lim {q : Rat} (h1 : q.num.natAbs < 10 ^ 4300) (h2 : q.den < 10 ^ 4300) : lim (qD q) = true := by
  unfold qD
  rw [lim, limAll, limAll, limAll, lim, lim]
  rw [decide_eq_true h1, decide_eq_true (by simpa using h2)]
  rfl
theorem shown_sum : ∀ ds : List PyData, ((PyData.shownAll ds).map (·.length)).sum = (ds.map fun d => d.shown.length).sum
  | [] => rfl
  | d :: r => by simp only [PyData.shownAll, List.map_cons, List.sum_cons, shown_sum r]
theorem shown_count : ∀ ds : List PyData, (PyData.shownAll ds).length = ds.length
  | [] => rfl
  | d :: r => by simp only [PyData.shownAll, List.length_cons, shown_count r]
theorem shown_tup (ds : List PyData) : (PyData.tuple ds).shown.length ≤ (ds.map fun d => d.shown.length).sum + 2 * ds.length + 3 := by
  simp only [PyData.shown]
  have := tupleText_len_le (PyData.shownAll ds)
  rw [shown_sum, shown_count] at this
  exact this
theorem qd_len {q : Rat} (h1 : q.num.natAbs < 10 ^ 4300) (h2 : q.den < 10 ^ 4300) : (qD q).shown.length ≤ 9000 := by
  have e1 := int_text_length_le10 (a := q.num) (k := 4300) (by decide) h1
  have e2 := int_text_length_le10 (a := (q.den : Int)) (k := 4300) (by decide) (by simpa using h2)
  have e3 := shown_tup [PyData.int q.num, .int (q.den : Int)]
  clear h1 h2
  have e4 : (PyData.int q.num).shown.length = (toString q.num).length := by simp only [PyData.shown]; exact PySem.ofString_length _
  have e5 : (PyData.int (q.den : Int)).shown.length = (toString (q.den : Int)).length := by simp only [PyData.shown]; exact PySem.ofString_length _
  rw [List.map_cons, List.map_cons, List.map_nil, List.sum_cons, List.sum_cons, List.sum_nil, e4, e5, List.length_cons, List.length_cons, List.length_nil] at e3
  unfold qD
  omega
/-- the numbers of a thing that are printed -/
def thQ : Option Thg → List Rat
  | none => []
  | some (.pt p) => [p.1, p.2]
  | some (.ln l _ _) => [l.1, l.2.1, l.2.2]
  | some (.ci m p) => [m.1, m.2, (circC m p).2]
def LimQ (q : Rat) : Prop := q.num.natAbs < 10 ^ 4300 ∧ q.den < 10 ^ 4300
theorem LimQ.neg {q : Rat} (h : LimQ q) : LimQ (-q) := ⟨by rw [Rat.neg_num, Int.natAbs_neg]; exact h.1, by rw [Rat.neg_den]; exact h.2⟩
theorem two_lim {d e : PyData} (h1 : lim d = true) (h2 : lim e = true) : lim (.tuple [d, e]) = true := by
  rw [lim, limAll, limAll, limAll, h1, h2]
  rfl
theorem three_lim {d e f : PyData} (h1 : lim d = true) (h2 : lim e = true) (h3 : lim f = true) : lim (.tuple [d, e, f]) = true := by
  rw [lim, limAll, limAll, limAll, limAll, h1, h2, h3]
  rfl
theorem two_len {d e : PyData} {m n : Nat} (h1 : d.shown.length ≤ m) (h2 : e.shown.length ≤ n) : (PyData.tuple [d, e]).shown.length ≤ m + n + 7 := by
  have := shown_tup [d, e]
  simp only [List.map_cons, List.map_nil, List.sum_cons, List.sum_nil, List.length_cons, List.length_nil] at this
  omega
theorem three_len {d e f : PyData} {m n k : Nat} (h1 : d.shown.length ≤ m) (h2 : e.shown.length ≤ n) (h3 : f.shown.length ≤ k) : (PyData.tuple [d, e, f]).shown.length ≤ m + n + k + 9 := by
  have := shown_tup [d, e, f]
  simp only [List.map_cons, List.map_nil, List.sum_cons, List.sum_nil, List.length_cons, List.length_nil] at this
  omega
theorem th_lim {o : Option Thg} (h : ∀ q ∈ thQ o, LimQ q) : lim (thD o) = true ∧ (thD o).shown.length ≤ 30000 := by
  have lq : ∀ q ∈ thQ o, lim (qD q) = true ∧ (qD q).shown.length ≤ 9000 := fun q hq => ⟨qd_lim (h q hq).1 (h q hq).2, qd_len (h q hq).1 (h q hq).2⟩
  clear h
  match o, lq with
  | none, _ => exact ⟨by rw [thD, lim], by rw [thD]; show ((("None" : String) : Str)).length ≤ 30000; decide⟩
  | some (.pt p), lq =>
    obtain ⟨a1, a2⟩ := lq p.1 (by simp [thQ])
    obtain ⟨b1, b2⟩ := lq p.2 (by simp [thQ])
    have := two_len a2 b2
    exact ⟨two_lim a1 b1, by rw [thD]; omega⟩
  | some (.ln l _ _), lq =>
    obtain ⟨a1, a2⟩ := lq l.1 (by simp [thQ])
    obtain ⟨b1, b2⟩ := lq l.2.1 (by simp [thQ])
    obtain ⟨c1, c2⟩ := lq l.2.2 (by simp [thQ])
    have := three_len a2 b2 c2
    exact ⟨three_lim a1 b1 c1, by rw [thD]; omega⟩
  | some (.ci m p), lq =>
    obtain ⟨a1, a2⟩ := lq m.1 (by simp [thQ])
    obtain ⟨b1, b2⟩ := lq m.2 (by simp [thQ])
    obtain ⟨c1, c2⟩ := lq (circC m p).2 (by simp [thQ])
    have e1 := two_len a2 b2
    have e2 := two_len e1 c2
    exact ⟨two_lim (two_lim a1 b1) c1, by rw [thD]; omega⟩
theorem ths_lim {ds : List PyData} (hl : ds.length ≤ 100) (h : ∀ d ∈ ds, lim d = true ∧ d.shown.length ≤ 30000) : lim (.tuple ds) = true ∧ (PyData.tuple ds).shown.length ≤ sizeLine := by
  constructor
  · rw [lim]
    clear hl
    induction ds with
    | nil => rw [limAll]
    | cons d r ih =>
      rw [limAll, (h d (by simp)).1, ih fun e he => h e (by simp [he])]
      rfl
  · have e1 := shown_tup ds
    have e2 : (ds.map fun d => d.shown.length).sum ≤ 30000 * ds.length := by
      clear hl e1
      induction ds with
      | nil => simp
      | cons d r ih =>
        have := ih fun e he => h e (by simp [he])
        have := (h d (by simp)).2
        simp only [List.map_cons, List.sum_cons, List.length_cons]
        omega
    rw [sizeLine_eq]
    omega
end Ph
set_option linter.all false
set_option maxRecDepth 100000
set_option maxHeartbeats 40000000
set_option exponentiation.threshold 5000
namespace Ph
open PySem PySem.Spec PyProof.Rows L2 LamX
/-! ### the law's own call: no guard stands around it, so repr may be told -/
section
variable {P : Program} {w : World} {K : PySem.W.Frag} {mg : Str → Option Value} {base : Heap}
/-- a def's call at the claim's own caller -/
theorem run_at {x q : Str} {pa : Arguments} {body : List Stmt} {sc : Scope} {N ps : List Str} {f : Addr} {fd : FuncData} {CX : CXT} {k : Nat} (F : FunD K x q pa body sc [] [] f fd) (S : FnScope N ps sc) {s : Shared} {H : Hp} {args : Args} {us : List Value} {vs : List V} {Q : VK} {E : XK}
    (hr : Room k callerA) (e0 : Env0 P w K mg base callerA [] s H) (hb : BindsTo s fd args (ps.zip us)) (rv : Vals vs us) (hl : vs.length = ps.length)
    (hbody : ∀ cdv, ∃ t, PSs (cxOf CX P w K mg base N q sc f cdv callerA [] s H E) body t ∧ t { nx := fun _ H' => Q .non H', rt := Q } (start N vs) H) :
    codeAny (model P w) callerA (.call (.ref f) args) (CR CX [] P w H s Q E) s := by
  obtain ⟨oc, od, dV, kV, doc, pm, an, cdv, ct, osl, rfl, lk, hcd, _, _⟩ := F.ex
  have kept : ∀ b o, base.get? b = some o → s.heap.get? b = some o := fun b o e => (e0.bs b o e).1
  have inK : K.In s.heap := e0.mod.kin.keeps kept
  have nl : s.heap.NoLimit := e0.mod.nolimit.keeps kept
  refine codeAny_call_function hr.depth (inK _ _ lk) rfl S.co S.gen rfl (PySem.W.codeRec_of inK hcd) (hb _ _ _ _ ?_)
  refine wpAny_newFunctionEnv_cells S.kind (fun ⟨n, v⟩ hy => ?_) fun env he s1 z => ?_
  · rcases S.par n (List.of_mem_zip hy).1 with m | m
    · exact .inl m
    · exact .inr ⟨m, PySem.W.cellsFrom_some _ _ _ (.inl m)⟩
  · subst he
    refine ⟨nl.keeps z.toInCall.keep, codeAny_func ?_⟩
    obtain ⟨t, t1, t2⟩ := hbody cdv
    have I0 : Inv (cxOf CX P w K mg base N q sc f cdv callerA [] s H E) [] (start N vs) H s1 := inv_start S hr.hd e0 hl rv z
    refine wpAny_mono (t1.run [] s1 (start N vs) H _ I0 t2) (fun fl s' h => ?_) fun _ _ h => h
    cases fl with
    | ret u =>
      obtain ⟨v, σ', H', J, r, y⟩ := h
      exact ⟨v, H', J.os, J.bare, J.base, J.hok, r, y⟩
    | next =>
      obtain ⟨σ', H', J, y⟩ := h
      exact ⟨V.non, H', J.os, J.bare, J.base, J.hok, rfl, y⟩
    | brk =>
      obtain ⟨_, _, _, y⟩ := h
      exact False.elim y
    | cont =>
      obtain ⟨_, _, _, y⟩ := h
      exact False.elim y
/-- the law's call, from a heap in which the script and one table are followed -/
theorem law_at {mb : Str → Option Value} {fa a c tb : Addr} {s1 : Shared} {vs : List Value} {ns : List Int} (kin : K.In s1.heap) (hns : s1.heap.Ns mainGlobals mg) (hb : s1.heap.Ns builtinsNs mb) (hbb : ∀ x : Str, x ≠ "__name__" → mb x = bootBuiltins x)
    (hlim : s1.heap.NoLimit) (hdig : s1.heap.NoDigits) (hseer : s1.heap.NoSeer) (hg : s1.gens = #[]) (hT : s1.heap.get? tb = some { cls := .none, data := .fields #[] }) (nT : K.lookup tb = none) (hC : PySem.W.CodeHd s1.heap c tb)
    (hbm : ∃ (bm : Addr) (ob : Obj), mg "__builtins__" = some (.ref bm) ∧ bm ≠ builtinsNs ∧ s1.heap.get? bm = some ob ∧ ob.cls = .type "module" ∧ ob.dict = some builtinsNs ∧ ob.data = .plain)
    (ha : s1.heap.get? a = some { cls := .type "list", data := .seq vs.toArray }) (hi : IntsAre vs ns) (hl : ns.length ≤ sizeLine)
    (F : ∀ (base : Heap) (H : Hp), K.In base → base.NoDigits → base.NoSeer → TabB base mg c tb → Env0 P w K mg base callerA [] s1 H → H tb = some (.tbl #[]) → SqL K H a (ns.map V.int) →
      codeAny (model P w) callerA (.call (.ref fa) ⟨[.ref a], []⟩) (CR CX0 [] P w H s1 (fun v _ => v = .bl true) fun _ _ _ => False) s1) :
    codeAny (model P w) callerA (.call (.ref fa) ⟨[.ref a], []⟩) (fun r s' => r = .ok (.ret (.bool true)) ∧ OldK s1.heap s'.heap ∧ s'.os = s1.os ∧ AllBare s'.gens) s1 := by
  have vl := vals_ints hi
  have nl := hi.length
  have nat : a ≠ tb := fun z => by
    rw [z, hT] at ha
    injection ha with e
    have := congrArg Obj.data e
    cases this
  let ol : Obj := { cls := .type "list", data := .seq vs.toArray }
  obtain ⟨H, h1, h2, h3, h4⟩ : ∃ H : Hp, H tb = some (.tbl #[]) ∧ (∀ b u, H b = some u → (b = tb ∧ u = .tbl #[]) ∨ (b = a ∧ K.lookup a = none ∧ u = .frz ol (.lst (ns.map V.int)))) ∧ SqL K H a (ns.map V.int) ∧ HOk P w H s1.heap := by
    have tabOk : ∀ H : Hp, ObjOk P w H s1.heap tb (.tbl #[]) := fun _ => hT
    cases hk : K.lookup a with
    | some o =>
      have e := kin a o hk
      rw [ha] at e
      cases e
      refine ⟨fun b => if b = tb then some (.tbl #[]) else none, if_pos rfl, fun b u e => ?_, .inr ⟨_, vs.toArray, _, hk, rfl, rfl, rfl, by rw [List.size_toArray, nl]; exact hl, by simpa using vl⟩, fun b u e => ?_⟩
      · dsimp only at e
        by_cases z : b = tb
        · rw [if_pos z] at e
          cases e
          exact .inl ⟨z, rfl⟩
        · rw [if_neg z] at e
          cases e
      · by_cases z : b = tb
        · have e' := (if_pos z).symm.trans e
          cases e'
          rw [z]
          exact tabOk _
        · have e' := (if_neg z).symm.trans e
          cases e'
    | none =>
      refine ⟨fun b => if b = tb then some (.tbl #[]) else if b = a then some (.frz ol (.lst (ns.map V.int))) else none, if_pos rfl, fun b u e => ?_, .inl (.inr ⟨ol, (if_neg nat).trans (if_pos rfl)⟩), fun b u e => ?_⟩
      · dsimp only at e
        by_cases z : b = tb
        · rw [if_pos z] at e
          cases e
          exact .inl ⟨z, rfl⟩
        · rw [if_neg z] at e
          by_cases y : b = a
          · rw [if_pos y] at e
            cases e
            exact .inr ⟨y, rfl, rfl⟩
          · rw [if_neg y] at e
            cases e
      · by_cases z : b = tb
        · have e' := (if_pos z).symm.trans e
          cases e'
          rw [z]
          exact tabOk _
        · have e1 := (if_neg z).symm.trans e
          by_cases y : b = a
          · have e' := (if_pos y).symm.trans e1
            cases e'
            rw [y]
            exact ⟨ha, by rw [List.length_map]; exact hl, vs, _, vl, ha⟩
          · have e' := (if_neg y).symm.trans e1
            cases e'
  -- what is not followed stands in the base
  have inB : ∀ {b : Addr} {o : Obj}, s1.heap.get? b = some o → H b = none → (hidT s1.heap H).get? b = some o := fun e n => hidT_get e n
  have free : ∀ {b : Addr} {o : Obj}, s1.heap.get? b = some o → (∀ v n, o.data ≠ .seq v n) → o.data ≠ .fields #[] → H b = none := fun {b o} e d1 d2 => by
    cases q : H b with
    | none => rfl
    | some u =>
      rcases h2 b u q with ⟨z, _⟩ | ⟨z, _, _⟩
      · rw [z, hT] at e
        cases e
        exact absurd rfl d2
      · rw [z, ha] at e
        cases e
        exact absurd rfl (d1 _ _)
  have ns0 : ∀ {b : Addr} {m : Str → Option Value}, s1.heap.Ns b m → (hidT s1.heap H).Ns b m := fun {b m} ⟨o, es, ep, e, d, r⟩ =>
    ⟨o, es, ep, inB e (free e (fun v n z => by rw [d] at z; cases z) fun z => by rw [d] at z; cases z), d, r⟩
  have kb : K.In (hidT s1.heap H) := fun b o e => inB (kin b o e) (by
    cases q : H b with
    | none => rfl
    | some u =>
      rcases h2 b u q with ⟨z, _⟩ | ⟨z, n, _⟩
      · rw [z, nT] at e
        cases e
      · rw [z, n] at e
        cases e)
  have md : L2.Mod K mg (hidT s1.heap H) := ⟨kb, ns0 hns, ⟨mb, ns0 hb, hbb⟩, let ⟨mc, x, y⟩ := hlim; ⟨mc, ns0 x, y⟩⟩
  have dg : (hidT s1.heap H).NoDigits := let ⟨mc, x, y⟩ := hdig; ⟨mc, ns0 x, y⟩
  have sr : (hidT s1.heap H).NoSeer := by
    refine ⟨let ⟨mc, x, y⟩ := hseer.statics; ⟨mc, ns0 x, y⟩, let ⟨mc, x, y⟩ := hseer.mods; ⟨mc, ns0 x, y⟩, let ⟨mc, x, y⟩ := hseer.imp; ⟨mc, ns0 x, y⟩, ?_⟩
    obtain ⟨m2, bm, ob, x1, x2, x3, x4, x5⟩ := hseer.main
    refine ⟨m2, bm, ob, ns0 x1, x2, inB x3 ?_, x4, x5⟩
    cases q : H bm with
    | none => rfl
    | some u =>
      rcases h2 bm u q with ⟨z, _⟩ | ⟨z, _, _⟩
      · rw [z, hT] at x3
        cases x3
        cases x4
      · rw [z, ha] at x3
        cases x3
        have y : ("list" : String) = "module" := by injection x4
        exact absurd y (by decide)
  have tbb : TabB (hidT s1.heap H) mg c tb := by
    refine ⟨?_, ?_, fun z => ?_⟩
    · obtain ⟨o, us, file, tf, flags, tg, inF, text, tt, e1, r1, r2, r3, r4, r5, r6, r7, r8, hne⟩ := hC
      exact ⟨o, us, file, tf, flags, tg, inF, text, tt, inB e1 (free e1 (fun v n z => by rw [r2] at z; cases z) fun z => by rw [r2] at z; cases z; simp at r3), r1, r2, r3, r4, r5, r6, r7, r8, hne⟩
    · obtain ⟨bm, ob, b1, b2, b3, b4, b5, b6⟩ := hbm
      have fr := free b3 (fun v n z => by rw [b6] at z; cases z) fun z => by rw [b6] at z; cases z
      refine ⟨bm, ob, b1, b2, fun q => ?_, fun q => ?_, inB b3 fr, b4, b5, b6⟩
      · obtain ⟨o, es, ep, e, hd, _⟩ := hns
        rw [q, e] at b3
        cases b3
        rw [hd] at b6
        cases b6
      · rw [q, h1] at fr
        cases fr
    · obtain ⟨o, es, ep, e, hd, _⟩ := hns
      rw [z, hT] at e
      cases e
      cases hd
  have e0 : Env0 P w K mg (hidT s1.heap H) callerA [] s1 H := ⟨rfl, md, fun b o e => of_hidT e, Nat.le_of_eq (hidT_size _ _), trivial, fun b z => (List.not_mem_nil z).elim, h4, .of_eq hg⟩
  refine codeAny_mono (F _ H kb dg sr tbb e0 h1 h3) fun r s' z => ?_
  match r, z with
  | .error e, z => exact z.elim
  | .ok .next, z => exact z.elim
  | .ok .brk, z => exact z.elim
  | .ok .cont, z => exact z.elim
  | .ok (.ret u), z =>
    obtain ⟨v, H', os, br, un, ok', rel, q⟩ := z
    obtain rfl : v = .bl true := q
    obtain rfl : u = Value.bool true := rel
    have keep : ∀ b o, b ≠ tb → s1.heap.get? b = some o → s'.heap.get? b = some o := fun b o nb e => by
      cases q : H b with
      | none => exact un.keep b o e q (by intro z; exact List.not_mem_nil z) (by simp)
      | some u =>
        rcases h2 b u q with ⟨z, _⟩ | ⟨z, _, rfl⟩
        · exact absurd z nb
        · obtain ⟨x1, _⟩ := h4 b _ q
          obtain ⟨x2, _⟩ := ok' b _ (un.frzs b _ _ q)
          rw [e] at x1
          cases x1
          exact x2
    obtain ⟨more, grew⟩ : ∃ more : Array Value, s'.heap.get? tb = some { cls := .none, data := .fields more } := by
      obtain ⟨more, y⟩ := un.tbls tb #[] h1
      exact ⟨_, ok' tb _ y⟩
    refine ⟨rfl, ⟨fun b o e => ?_, fun b o e => ?_⟩, os, br⟩
    · by_cases z : b = tb
      · subst z
        rw [hT] at e
        cases e
        exact .inr (.inl ⟨(hC.tab hT).isCodeTable, rfl, #[], more, rfl, by rw [Array.empty_append]; exact grew⟩)
      · exact .inl (keep b o z e)
    · by_cases z : b = tb
      · subst z
        exact ⟨_, grew⟩
      · exact ⟨o, keep b o z e⟩
end
/-- the end of the law's row -/
theorem law_end {l : PySem.W.OpenLaw} {n k : Nat} {q : Program} {loose : List Str} {XP : (Str → Option Value) → Heap → Prop} {YP : World → Heap → Prop} {d : DefRec} (hn : l.most = some n) (hn2 : n ≤ sizeLine) (hdf : d.params.defaults = []) (him : importsNone q = true)
    (F : ∀ (w : World) (mg : Str → Option Value) (fa : Addr) (h : Heap), YP w h → h.Ns mainGlobals mg → mg d.name = some (.ref fa) → ∃ (K : PySem.W.Frag) (c tb : Addr), K.In h ∧ h.get? tb = some { cls := .none, data := .fields #[] } ∧ K.lookup tb = none ∧ PySem.W.CodeHd h c tb ∧
      ∀ (base : Heap) (H : Hp) (s : Shared) (a : Addr) (ns : List Int), base.NoDigits → base.NoSeer → TabB base mg c tb → Env0 l.prog w K mg base callerA [] s H → H tb = some (.tbl #[]) → SqL K H a (ns.map V.int) →
        codeAny (model l.prog w) callerA (.call (.ref fa) ⟨[.ref a], []⟩) (CR CX0 [] l.prog w H s (fun v _ => v = .bl true) fun _ _ _ => False) s) :
    PySem.W.WalkO q loose XP YP l.row.toRowW d [] (fun f vs => PySem.call f vs) := by
  refine Att.attach_callB hn hdf fun w s₀ s₁ mg mb fa o pm cd doc a vs ns G Y ho hd hcd hmg hobj hints hlen hbits hg => ?_
  obtain ⟨K, c, tb, kin, hT, nT, hC, run⟩ := F w mg fa _ Y G.T.g hmg
  exact law_at kin G.T.g G.T.b G.T.builtins G.T.nolimit G.T.nodigits (G.T.seer him) hg hT nT hC G.T.bmain hobj hints (Nat.le_trans hlen hn2) fun base H _ dg sr tb e0 h1 h2 => run base H s₁ a ns dg sr tb e0 h1 h2
end Ph
set_option linter.all false
set_option maxRecDepth 100000
set_option maxHeartbeats 40000000
set_option exponentiation.threshold 5000
namespace Ph
open PySem PySem.Spec PyProof.Rows L2 LamX
/-! ### repr in the law -/
def tD : Option Bool → PyData
  | none => .none
  | some b => .bool b
section
variable {X : Cx}
/-- repr of a tuple of data -/
theorem call_reprD (hg : X.A.guards = some []) (hu : X.A.units + 200 < cLine) (hn : X.base.NoDigits) : CallR X (.builtin "repr") (fun xs H Q => ∃ (n : Nat) (v : V) (ds : List PyData), xs = [v] ∧ n ≤ 50 ∧ DtA (n + 1) (.tuple ds) H v ∧ lim (.tuple ds) = true ∧ (PyData.tuple ds).shown.length ≤ sizeLine ∧ Q (.str (PyData.tuple ds).shown) H) := by
  intro pins s σ H xs us Q I r h
  obtain ⟨n, v, ds, rfl, n50, hv, hl, hz, q⟩ := h
  obtain ⟨u, rfl, ru⟩ := vals1 r
  have dp := dt_depth hv
  obtain ⟨a, vs, rfl, ha, hlen, he⟩ := hv.tup
  obtain rfl : u = .ref a := ru
  obtain ⟨_, its, rv, o, e1, e2, m, e3⟩ := I.hok a _ ha
  have dg : s.heap.NoDigits := hn.keeps I.bk
  have sl : ShwL X.prog X.w s.heap its ds := shw_list (fun d v u => shw_of dg I.hok n d v u) ds vs its rv hlen he (by rw [lim] at hl; exact hl)
  obtain ⟨⟨a1, r1⟩, b1, m1, k1⟩ := sl
  have rr : Reads s.heap (.ref a) (.tuple ds) a1 := .tuple e1 e2 e3 r1
  have na : a ∉ b1 := not_mem_of_deeper rr (by simp only [PyData.depth]; omega) m1
  simp only [PyData.depth] at dp
  simp only [PyData.shown] at hz q
  refine call_repr_slot (T := "tuple") (by omega) ⟨o, e1, e2⟩ F.slot_tuple_repr ?_
  refine call_tuple_reprK (g := []) e1 e2 e3 na k1 (A := X.A.in1) (by exact hg) (fun b _ => Clear.nil b) (by show X.A.units + 1 + _ < _; omega) (fun _ _ e => e) (fun h' u tk hk => ?_) hz
  exact ⟨_, _, rfl, .str _, H, I.kept hk, ⟨_, rfl⟩, q⟩
/-- repr of a list of two answers -/
theorem call_reprL (hg : X.A.guards = some []) (hu : X.A.units + 200 < cLine) : CallR X (.builtin "repr") (fun xs H Q => ∃ (a : Addr) (x y : Option Bool), xs = [.ref a] ∧ H a = some (.lst [toldV x, toldV y]) ∧ Q (.str (PyData.list [tD x, tD y]).shown) H) := by
  intro pins s σ H xs us Q I r h
  obtain ⟨a, x, y, rfl, ha, q⟩ := h
  obtain ⟨u, rfl, ru⟩ := vals1 r
  obtain rfl : u = .ref a := ru
  obtain ⟨_, its, m, rv, e1⟩ := I.hok a _ ha
  obtain ⟨u1, u2, rfl, r1, r2⟩ := vals2 rv
  have one : ∀ {z : Option Bool} {u : Value}, RelV (toldV z) u → Reads s.heap u (tD z) [] := fun {z u} r => by
    cases z with
    | none =>
      obtain rfl : u = .none := r
      exact .none
    | some b =>
      obtain rfl : u = .bool b := r
      exact .bool b
  have sh : ∀ z : Option Bool, (tD z).showable = true ∧ (tD z).hasDict = false ∧ (tD z).depth = 0 ∧ (tD z).shown.length ≤ 5 := fun z => by
    cases z with
    | none => exact ⟨rfl, rfl, rfl, by show (("None" : String) : Str).length ≤ 5; decide⟩
    | some b => cases b <;> exact ⟨rfl, rfl, rfl, by decide⟩
  have rr : Reads s.heap (.ref a) (.list [tD x, tD y]) [a] := .list e1 rfl rfl (.cons (one r1) (.cons (one r2) .nil))
  have d1 : (PyData.list [tD x, tD y]).showable = true := by
    simp only [PyData.showable, PyData.showableAll, (sh x).1, (sh y).1, Bool.and_self]
  have d2 : (PyData.list [tD x, tD y]).hasDict = false := by
    simp only [PyData.hasDict, PyData.hasDictAll, (sh x).2.1, (sh y).2.1, Bool.or_self]
  have d3 : (PyData.list [tD x, tD y]).depth = 1 := by
    simp only [PyData.depth, PyData.depthAll, (sh x).2.2.1, (sh y).2.2.1]
    rfl
  have d4 : (PyData.list [tD x, tD y]).shown.length ≤ sizeLine := by
    rw [sizeLine_eq]
    cases x with
    | none => cases y with
      | none => decide
      | some b => cases b <;> decide
    | some c => cases c <;> (cases y with
      | none => decide
      | some b => cases b <;> decide)
  exact repr_of_reads' rr d1 (PyData.noDict_hsm d2) hg (by rw [d3]; omega) (fun _ _ e => e) (fun h' u tk hk => ⟨.str _, H, I.kept hk, ⟨_, rfl⟩, q⟩) d4
end
/-! ### plans and numbers as data -/
def vD : V → PyData
  | .str x => .str x
  | .int i => .int i
  | _ => .none
def stD (s : Str × Stp) : PyData := .tuple ((stV s).map vD)
theorem word_ok (s : Stp) : PyData.strOk s.word = true := by
  cases s with
  | two b x y =>
    show PyData.strOk b.word = true
    cases b <;> decide +kernel
  | free => show PyData.strOk "free" = true; decide +kernel
  | on l => show PyData.strOk "on" = true; decide +kernel
  | round c => show PyData.strOk "round" = true; decide +kernel
  | turn p q k => show PyData.strOk "turn" = true; decide +kernel
  | other l c p => show PyData.strOk "other" = true; decide +kernel
section
variable {K : PySem.W.Frag} {H : Hp}
theorem dp_strs2 : ∀ ns : List Str, DpAll K H (ns.map V.str) ((ns.map V.str).map vD)
  | [] => .nil
  | n :: r => .cons (.str n) (dp_strs2 r)
theorem dp_app {a b : List V} {d e : List PyData} (h1 : DpAll K H a d) (h2 : DpAll K H b e) : DpAll K H (a ++ b) (d ++ e) := by
  induction a generalizing d with
  | nil => cases h1; exact h2
  | cons v r ih =>
    cases h1 with
    | cons x y => exact .cons x (ih y)
theorem dp_ints2 : ∀ ns : List Int, DpAll K H (ns.map V.int) ((ns.map V.int).map vD)
  | [] => .nil
  | n :: r => .cons (.int n) (dp_ints2 r)
theorem dp_st {s : Str × Stp} {v : V} (h : StA s H v) : Dp K H v (stD s) := by
  obtain ⟨a, rfl, ha⟩ := h
  refine .tup (SqT.of ha) (.cons (.str _) (.cons (.str _) ?_))
  unfold Stp.rest
  rw [List.map_append]
  exact dp_app (dp_strs2 _) (dp_ints2 _)
theorem dp_each {α : Type} {A : α → Ap} {f : α → PyData} (hA : ∀ x v, A x H v → Dp K H v (f x)) : ∀ (xs : List α) (vs : List V), Each A xs H vs → DpAll K H vs (xs.map f)
  | [], [], _ => .nil
  | x :: xs, v :: vs, e => by
    obtain ⟨u, e1, e2⟩ := e.2 0 x rfl
    cases e1
    exact .cons (hA x v e2) (dp_each hA xs vs ⟨by simpa using e.1, fun i y hy => e.2 (i + 1) y hy⟩)
  | [], _ :: _, e => by simp [Each] at e
  | _ :: _, [], e => by simp [Each] at e
theorem dp_plan {pl : Pl} {v : V} (h : PlA pl H v) : Dp K H v (.tuple (pl.map stD)) := by
  obtain ⟨a, vs, rfl, ha, he⟩ := h
  exact .tup (SqT.of ha) (dp_each (fun _ _ => dp_st) pl vs he)
theorem dp_q {q : Rat} {v : V} (h : QA q H v) : Dp K H v (qD q) := by
  obtain ⟨a, rfl, ha⟩ := h
  exact .tup (SqT.of ha) (.cons (.int _) (.cons (.int _) .nil))
theorem dp_qs {qs : List Rat} {a : Addr} (h : QsL qs a H) : Dp K H (.ref a) (.list (qs.map qD)) := by
  obtain ⟨vs, ha, he⟩ := h
  exact .lst (SqL.of ha) (dp_each (fun _ _ => dp_q) qs vs he)
end
theorem lay_all {ds : List PyData} (h : ∀ d ∈ ds, d.canLay0 = true ∧ d.depth ≤ 5) : PyData.canLayAll0 ds = true ∧ PyData.depthAll ds ≤ 5 := by
  induction ds with
  | nil => exact ⟨rfl, by simp [PyData.depthAll]⟩
  | cons d r ih =>
    obtain ⟨h1, h2⟩ := ih fun e he => h e (by simp [he])
    obtain ⟨h3, h4⟩ := h d (by simp)
    exact ⟨by simp only [PyData.canLayAll0, h1, h3, Bool.and_self], by simp only [PyData.depthAll]; omega⟩
theorem lay_st {x : Str} {s : Stp} (hx : PyData.strOk x = true) (ho : ∀ y ∈ s.of, PyData.strOk y = true) : (stD (x, s)).canLay0 = true ∧ (stD (x, s)).depth ≤ 1 := by
  have e : ∀ d ∈ (stV (x, s)).map vD, d.canLay0 = true ∧ d.depth = 0 := by
    intro d hd
    simp only [stV, Stp.rest, List.map_cons, List.map_append, List.map_map, List.mem_cons, List.mem_append, List.mem_map, Function.comp] at hd
    rcases hd with rfl | rfl | ⟨y, hy, rfl⟩ | ⟨i, hi, rfl⟩
    · exact ⟨by simp only [vD, PyData.canLay0, word_ok], rfl⟩
    · exact ⟨by simp only [vD, PyData.canLay0, hx], rfl⟩
    · exact ⟨by simp only [vD, PyData.canLay0, ho y hy], rfl⟩
    · exact ⟨rfl, rfl⟩
  have key : ∀ ds : List PyData, (∀ d ∈ ds, d.canLay0 = true ∧ d.depth = 0) → PyData.canLayAll0 ds = true ∧ PyData.depthAll ds = 0 := by
    intro ds
    induction ds with
    | nil => intro _; exact ⟨rfl, by simp [PyData.depthAll]⟩
    | cons d r ih =>
      intro h
      obtain ⟨h1, h2⟩ := ih fun e he => h e (by simp [he])
      obtain ⟨h3, h4⟩ := h d (by simp)
      exact ⟨by simp only [PyData.canLayAll0, h1, h3, Bool.and_self], by simp only [PyData.depthAll, h2, h4, Nat.max_self]⟩
  obtain ⟨h1, h2⟩ := key _ e
  exact ⟨by unfold stD; simp only [PyData.canLay0, h1], by unfold stD; simp only [PyData.depth, h2]; exact Nat.le_refl _⟩
theorem shaped_plan {pl : Pl} (g : GenOk pl) : SeqAt.shaped (.tuple (pl.map stD)) = true := by
  have := lay_all (ds := pl.map stD) fun d hd => by
    obtain ⟨⟨x, s⟩, hs, rfl⟩ := List.mem_map.mp hd
    obtain ⟨i, hi⟩ := List.getElem?_of_mem hs
    have := lay_st (x := x) (s := s) (g.so x (List.mem_map.mpr ⟨_, hs, rfl⟩)) fun y hy => by
      have h := (g.good i x s hi).1.names y hy
      obtain ⟨⟨z, t⟩, h1, rfl⟩ := List.mem_map.mp h
      exact g.so z (List.mem_map.mpr ⟨_, List.mem_of_mem_take h1, rfl⟩)
    exact ⟨this.1, by omega⟩
  unfold SeqAt.shaped
  rw [Bool.and_eq_true]
  refine ⟨by simpa only [PyData.canLay0] using this.1, decide_eq_true ?_⟩
  simp only [PyData.depth]
  omega
theorem shaped_qs (qs : List Rat) : SeqAt.shaped (.list (qs.map qD)) = true := by
  refine shaped_of (lay_all (ds := qs.map qD) fun d hd => ?_).1 (Nat.le_trans (lay_all (ds := qs.map qD) fun d hd => ?_).2 (by decide)) <;>
  · obtain ⟨q, _, rfl⟩ := List.mem_map.mp hd
    exact ⟨rfl, by simp [qD, PyData.depth, PyData.depthAll]⟩
theorem lay_shaped {d : PyData} (h : SeqAt.shaped d = true) : d.canLay0 = true := (Bool.and_eq_true_iff.mp h).1
/-! ### what a drawing needs -/
structure Drn (pl : Pl) (qs : List Rat) : Prop where
  ok : PlOk pl qs
  len : (draw pl qs).length = pl.length
  sm : EvSm (envN pl (draw pl qs) pl.length)
  lim : ∀ o ∈ draw pl qs, ∀ q ∈ thQ o, LimQ q
/-- the law's facts of a plan and its numbers -/
structure Facts (pl : Pl) (qs : List Rat) (odd : Str → Bool) : Prop where
  d1 : Drn pl qs
  d2 : Drn (mirPl pl) (ledN odd pl qs)
  odd1 : ∀ x l, (x, Stp.on l) ∈ pl → OddAt pl 20 l (odd l)
  odd2 : ∀ x l, (x, Stp.on l) ∈ mirPl pl → OddAt (mirPl pl) 20 l (odd l)
  led : (draw (mirPl pl) (ledN odd pl qs)).map thD = (draw pl qs).map ledD
  lim2 : ∀ o ∈ draw pl qs, lim (ledD o) = true ∧ (ledD o).shown.length ≤ 30000
  cl : ∀ c, ClN pl c → ClOk (envN pl (draw pl qs) pl.length) c ∧ ClOk (envN (mirPl pl) (draw (mirPl pl) (ledN odd pl qs)) pl.length) c ∧ told (envN (mirPl pl) (draw (mirPl pl) (ledN odd pl qs)) pl.length) c = told (envN pl (draw pl qs) pl.length) c
  all2 : (ledN odd pl qs).length = allN (mirPl pl)
  back : ledN odd (mirPl pl) (ledN odd pl qs) = qs
/-! ### the law's heaps: all but the deck and the table stay -/
def KN (D C : Addr) (H H' : Hp) : Prop := ∀ b o, b ≠ D → b ≠ C → H b = some o → (∀ ps, o ≠ .tbl ps) → H' b = some o
section
variable {D C : Addr} {H H1 H2 : Hp}
theorem KN.kp (k : KpD D C H H1) : KN D C H H1 := fun b o n m h _ => k b o n m h
theorem KN.ext (k : ExtN H H1) : KN D C H H1 := fun b o _ _ h t => k b o h t
theorem KN.of (s : Same H H1) : KN D C H H1 := .kp (KpD.of s)
theorem KN.trans (a : KN D C H H1) (b : KN D C H1 H2) : KN D C H H2 := fun c o n m h t => b c o n m (a c o n m h t) t
theorem KN.imm (k : KN D C H H1) (d : Deck D C H) : SameI H H1 := by
  obtain ⟨cs, c, n, h1, h2, h4⟩ := d.ex
  intro a o e i
  refine k a o (fun z => ?_) (fun z => ?_) e (fun ps z => by subst z; exact i)
  · subst z
    rw [h1] at e
    cases e
    exact i
  · subst z
    rw [h2] at e
    cases e
    exact i
theorem Deck.ext (d : Deck D C H) (k : ExtN H H1) : Deck D C H1 := by
  obtain ⟨cs, c, n, h1, h2, h4⟩ := d.ex
  exact ⟨d.ne, cs, c, n, k _ _ h1 (fun _ z => by cases z), k _ _ h2 (fun _ z => by cases z), h4⟩
theorem Tabs.kp {T : List (Addr × Str)} (t : Tabs T H) (d : Deck D C H) (k : KpD D C H H1) : Tabs T H1 := fun p hp => by
  obtain ⟨cs, c, n, h1, h2, h4⟩ := d.ex
  obtain ⟨ps, t1, t2, t3⟩ := t p hp
  have stay : ∀ {a : Addr} {o : HO}, H a = some o → (∀ xs, o ≠ .lst xs) → H1 a = some o := fun {a o} e no => by
    refine k a o (fun z => ?_) (fun z => ?_) e
    · subst z
      rw [h1] at e
      cases e
      exact no _ rfl
    · subst z
      rw [h2] at e
      cases e
      exact no _ rfl
  refine ⟨ps, stay t1 (fun _ z => by cases z), t2, fun pos cv hc => ?_⟩
  obtain ⟨c, e1, e2⟩ := t3 pos cv hc
  exact ⟨c, e1, stay e2 (fun _ z => by cases z)⟩
theorem QsL.kn {qs : List Rat} {a : Addr} (h : QsL qs a H) (d : Deck D C H) (n1 : a ≠ D) (n2 : a ≠ C) (k : KN D C H H1) : QsL qs a H1 := let ⟨vs, h1, h2⟩ := h; ⟨vs, k _ _ n1 n2 h1 (fun _ z => by cases z), h2.sameI (fun _ => mi_qa) (k.imm d)⟩
theorem QsL.ext {qs : List Rat} {a : Addr} (h : QsL qs a H) (k : ExtN H H1) : QsL qs a H1 := let ⟨vs, h1, h2⟩ := h; ⟨vs, k _ _ h1 (fun _ z => by cases z), h2.sameI (fun _ => mi_qa) (SameI.ofN k)⟩
end
end Ph
set_option linter.all false
set_option maxRecDepth 100000
set_option maxHeartbeats 40000000
set_option exponentiation.threshold 5000
namespace Ph
open PySem PySem.Spec PyProof.Rows L2 LamX
open C8 (pss_cut)
section
variable {P : Program} {w : World} {K : PySem.W.Frag} {mg : Str → Option Value} {base : Heap} {CE CN CR : Addr}
theorem numb0 : NumB 0 ∧ NumB 1 ∧ NumB 2 ∧ NumB (-1) := ⟨⟨0, 1, by decide +kernel, by decide, by decide, by decide⟩, ⟨1, 1, by decide +kernel, by decide, by decide, by decide⟩, ⟨2, 1, by decide +kernel, by decide, by decide, by decide⟩, ⟨-1, 1, by decide +kernel, by decide, by decide, by decide⟩⟩
abbrev tFew : TA := tCons (tVar 1) (tCons (tLst (tCons (tTup (tCons (tC (.int 0)) (tCons (tC (.int 1)) tNil))) (tCons (tTup (tCons (tC (.int 1)) (tCons (tC (.int 1)) tNil))) (tCons (tTup (tCons (tC (.int 2)) (tCons (tC (.int 1)) tNil))) (tCons (tTup (tCons (tUn (rU fun i => .int (-i)) (tC (.int 1))) (tCons (tC (.int 1)) tNil))) tNil))))) tNil)
/-- one number of the few -/
theorem run_few {σ : L2.St} {H : Hp} {D C : Addr} {Q : VK} (h1 : σ[1]? = some (some (.ref D))) (dk : Deck D C H) (q : ∀ v r H', KpD D C H H' → Deck D C H' → QA r H' v → NumB r → Q v H') : tCall (spPick K) [] E0 tFew σ H Q := by
  refine ⟨_, h1, by show 2 ≤ sizeLine; decide, fun t1 f1 => ⟨by show 2 ≤ sizeLine; decide, fun t2 f2 => ⟨by show 2 ≤ sizeLine; decide, fun t3 f3 => ⟨1, rfl, by show 2 ≤ sizeLine; decide, fun t4 f4 => ⟨by show 4 ≤ sizeLine; decide, fun l fl => ?_⟩⟩⟩⟩⟩
  have s1 := same_new (o := .tup [V.int 0, .int 1]) f1
  have s2 := same_new (o := .tup [V.int 1, .int 1]) f2
  have s3 := same_new (o := .tup [V.int 2, .int 1]) f3
  have s4 := same_new (o := .tup [V.int (-1), .int 1]) f4
  have s5 := same_new (o := .lst [V.ref t1, .ref t2, .ref t3, .ref t4]) fl
  have e1 := s5 _ _ (s4 _ _ (s3 _ _ (s2 _ _ (upd_same (H := H) (a := t1) (o := .tup [V.int 0, .int 1])))))
  have e2 := s5 _ _ (s4 _ _ (s3 _ _ (upd_same (H := upd H t1 (.tup [V.int 0, .int 1])) (a := t2) (o := .tup [V.int 1, .int 1]))))
  have e3 := s5 _ _ (s4 _ _ (upd_same (H := upd (upd H t1 (.tup [V.int 0, .int 1])) t2 (.tup [V.int 1, .int 1])) (a := t3) (o := .tup [V.int 2, .int 1])))
  have e4 := s5 _ _ (upd_same (H := upd (upd (upd H t1 (.tup [V.int 0, .int 1])) t2 (.tup [V.int 1, .int 1])) t3 (.tup [V.int 2, .int 1])) (a := t4) (o := .tup [V.int (-1), .int 1]))
  have sA := (((s1.trans s2).trans s3).trans s4).trans s5
  obtain ⟨n1, n2⟩ := (dk.same (((s1.trans s2).trans s3).trans s4)).neD fl
  have dk5 := dk.same sA
  refine ⟨D, C, l, _, rfl, n1, n2, upd_same, by show 0 < 4; decide, by show 4 ≤ 20000; decide, dk5, fun i y H' hi kp dk' => ?_⟩
  have kpA : KpD D C H H' := (KpD.of sA).trans kp
  have im := kp.immI dk5
  match i, hi with
  | 0, hi =>
    cases hi
    exact q _ 0 H' kpA dk' ⟨t1, rfl, im _ _ e1 trivial⟩ numb0.1
  | 1, hi =>
    cases hi
    exact q _ 1 H' kpA dk' ⟨t2, rfl, im _ _ e2 trivial⟩ numb0.2.1
  | 2, hi =>
    cases hi
    exact q _ 2 H' kpA dk' ⟨t3, rfl, im _ _ e3 trivial⟩ numb0.2.2.1
  | 3, hi =>
    cases hi
    exact q _ (-1) H' kpA dk' ⟨t4, rfl, im _ _ e4 trivial⟩ numb0.2.2.2
/-- all numbers of the few -/
theorem run_fews {a p D C : Addr} {qs : List Rat} {x0 x2 x3 x4 x6 x7 x8 x9 x10 x11 x12 : Option V} {H : Hp} {Q : VK} (dk : Deck D C H) (np : p ≠ D) (nc : p ≠ C) (hq : QsL qs p H) (hl : qs.length ≤ 1000)
    (k : ∀ G rs H', KpD D C H H' → Deck D C H' → H G = none → G ≠ D → G ≠ C → QsL rs G H' → rs.length = qs.length → (∀ r ∈ rs, NumB r) → Q (.ref G) H') :
    tLc (iList K (tVar 5)) (gName 6) tYes (tCall (spPick K) [] E0 tFew) [6] [x0, some (.ref D), x2, x3, x4, some (.ref p), x6, x7, x8, x9, x10, x11, x12] H Q := by
  obtain ⟨vs, hp, he⟩ := hq
  refine ⟨_, rfl, p, rfl, ⟨vs, SqL.of hp⟩, fun G hG => ?_⟩
  obtain ⟨g1, g2⟩ := dk.neD hG
  have s1 := same_new (o := .lst []) hG
  have ln : vs.length = qs.length := he.1
  refine lc_it (walk_list (K := K) (xs := vs)) (fun j Hx => KpD D C H Hx ∧ Deck D C Hx ∧ ∃ rs, QsL rs G Hx ∧ rs.length = j ∧ ∀ r ∈ rs, NumB r) ⟨KpD.of s1, dk.same s1, [], ⟨[], upd_same, rfl, fun i x h => by cases h⟩, rfl, fun r h => by cases h⟩ (fun _ _ _ h => SqL.of (h.1 _ _ np nc hp)) (fun j z Hx Hy lj h y => ?_) fun Hx h => ?_
  · obtain ⟨rfl, _⟩ := y
    obtain ⟨q1, q2, rs, hr, rl, rz⟩ := h
    refine ⟨rfl, ?_⟩
    unfold tYes
    refine yes rfl ?_
    refine run_few rfl q2 fun v r H3 kp3 dk3 hv hb => ?_
    obtain ⟨us, h1, h2⟩ := hr.kp q2 g1 g2 kp3
    have si : SameI H3 (upd H3 G (.lst (us ++ [v]))) := SameI.put h1 (fun z => z)
    have ul : us.length = rs.length := h2.1
    refine ⟨us, h1, by rw [sizeLine_eq]; omega, (q1.trans kp3).put hG, dk3.keep g1 g2, rs ++ [r], ⟨_, upd_same, (h2.sameI (fun _ => mi_qa) si).snoc (mi_qa _ _ _ si hv)⟩, by simp [rl], fun t ht => ?_⟩
    rcases List.mem_append.mp ht with h | h
    · exact rz t h
    · rw [List.mem_singleton] at h
      subst h
      exact hb
  · obtain ⟨q1, q2, rs, hr, rl, rz⟩ := h
    exact k G rs Hx q1 q2 hG g1 g2 hr (rl.trans ln) rz
abbrev s_law : Stmt := top 101
theorem sc_law : FnScope ["_law_script", "_law_deck_here", "_law_turn", "_law_few", "_law_plan_here", "_law_numbers_here", "_law_one", "_law_other", "_law_others_here", "_law_two_here", "_law_it", "_law_claim", "_law_told"] ["_law_script"] (defScope s_law) := ⟨rfl, rfl, rfl, by decide +kernel, rfl, by decide +kernel, by decide +kernel⟩
structure LawDefs (P : Program) (w : World) (K : PySem.W.Frag) (mg : Str → Option Value) (base : Heap) (CE : Addr) (T : List (Addr × Str)) : Prop where
  deck : Cal P w K mg base CX0 1 "_law_deck" ["_law_script"] (spDeck K)
  draw : Cal P w K mg base CX0 1 "_law_draw" ["_law_deck_here", "_law_many_here"] spDraw
  plan : Cal P w K mg base CX0 4 "_law_plan" ["_law_deck_here", "_law_many_here", "_law_heavy"] spPlan
  numbers : Cal P w K mg base CX0 4 "_law_numbers" ["_law_deck_here", "_law_plan_here"] spNumbers
  pick : Cal P w K mg base CX0 2 "_law_pick" ["_law_deck_here", "_law_some"] (spPick K)
  planLed : Cal P w K mg base CX0 1 "_law_plan_led" ["_law_plan_here"] spPlanLed
  numLed : Cal P w K mg base CX0 23 "_law_numbers_led" ["_law_plan_here", "_law_numbers_here"] (spNumLed 20)
  shown : Cal P w K mg base CX0 5 "_law_shown" ["_law_it"] (spShown CE 4)
  drawn : Cal P w K mg base CX0 66 "drawn" ["sketch", "hand"] (spDrawn CE T)
  hand : Cal P w K mg base CX0 38 "_law_hand" ["_law_numbers_here"] (spHand CE)
  led : Cal P w K mg base CX0 2 "_law_thing_led" ["_law_it"] spThingLed
  claims : Cal P w K mg base CX0 3 "_law_claims" ["_law_deck_here", "_law_plan_here"] spClaims
  so : Cal P w K mg base CX0 67 "is_so" ["sketch", "hand", "saying"] (spSo CE T)
theorem mir_mir {pl : Pl} (h : ∀ x s, (x, s) ∈ pl → ∀ p q k, s = Stp.turn p q k → 1 ≤ k ∧ k ≤ 4) : mirPl (mirPl pl) = pl := by
  unfold mirPl
  rw [List.map_map]
  refine (List.map_congr_left fun s hs => ?_).trans (List.map_id pl)
  obtain ⟨x, s⟩ := s
  show (x, mirS (mirS s)) = (x, s)
  cases s with
  | turn p q k =>
    obtain ⟨_, h4⟩ := h x _ hs p q k rfl
    show (x, Stp.turn p q (4 - (4 - k))) = _
    rw [show 4 - (4 - k) = k by omega]
  | _ => rfl
theorem mir_names (pl : Pl) : (mirPl pl).names = pl.names := by
  unfold mirPl Pl.names
  rw [List.map_map]
  rfl
theorem g4 {pl : Pl} (g : GenOk pl) {x : Str} {s : Stp} (h : (x, s) ∈ pl) : ∀ p q k, s = Stp.turn p q k → 1 ≤ k ∧ k ≤ 4 := fun p q k e => by
  subst e
  obtain ⟨i, hi⟩ := List.getElem?_of_mem h
  have := (g.good i x _ hi).1
  exact ⟨this.2.2.1, by have := this.2.2.2; omega⟩
abbrev FactsAll : Prop := ∀ (pl : Pl) (qs : List Rat), GenOk pl → 6 ≤ pl.length → pl.length ≤ 12 → qs.length = allN pl → (∀ q ∈ qs, NumB q) → ∃ odd, Facts pl qs odd
theorem law_walk {T : List (Addr × Str)} {tb : Addr} (hT : T = [(tb, lamQ)]) (facts : FactsAll) (B : Bl mg) (L : LawDefs P w K mg base CE T) (dg : base.NoDigits) {f : Addr} {cdv : Value} {s : Shared} {H : Hp} {a : Addr} {ns : List Int} {E : XK} (hr : Room 67 (callerA.deeper (envOfC "law" (defScope s_law) s.heap.objs.size f cdv)))
    (h1 : H tb = some (.tbl #[])) (h2 : SqL K H a (ns.map V.int)) :
    ∃ t, PSs (cxOf CX0 P w K mg base ["_law_script", "_law_deck_here", "_law_turn", "_law_few", "_law_plan_here", "_law_numbers_here", "_law_one", "_law_other", "_law_others_here", "_law_two_here", "_law_it", "_law_claim", "_law_told"] "law" (defScope s_law) f cdv callerA [] s H E).nox (defBody s_law) t ∧ t { nx := fun _ H' => (fun (v : V) (_ : Hp) => v = .bl true) .non H', rt := fun v _ => v = .bl true } (start ["_law_script", "_law_deck_here", "_law_turn", "_law_few", "_law_plan_here", "_law_numbers_here", "_law_one", "_law_other", "_law_others_here", "_law_two_here", "_law_it", "_law_claim", "_law_told"] [.ref a]) H := by
  have c__law_deck := L.deck
  have c__law_draw := L.draw
  have c__law_plan := L.plan
  have c__law_numbers := L.numbers
  have c__law_pick := L.pick
  have c__law_plan_led := L.planLed
  have c__law_numbers_led := L.numLed
  have c__law_shown := L.shown
  have c_drawn := L.drawn
  have c__law_hand := L.hand
  have c__law_thing_led := L.led
  have c__law_claims := L.claims
  have c_is_so := L.so
  have hu : (callerA.deeper (envOfC "law" (defScope s_law) s.heap.objs.size f cdv)).units + 200 < cLine := by
    have := hr.un
    omega
  have hu2 : (callerA.deeper (envOfC "law" (defScope s_law) s.heap.objs.size f cdv)).units + 64 < cLine := by omega
  have hgd : (callerA.deeper (envOfC "law" (defScope s_law) s.heap.objs.size f cdv)).guards = some [] := rfl
  refine ⟨_, (pss_cons (ps_set (i := 1) sc_law.nd rfl (by first | exact Or.inl rfl | exact Or.inr rfl) (pe_c c__law_deck (hr.mono (by omega)) (pa_cons (pv 0) pa_nil)))
      (pss_cons (ps_for PassesOwn.never rfl (pi_range1 rfl B.range (pa_cons pe_int pa_nil)) (pg_name (i := 2) sc_law.nd rfl (by first | exact Or.inl rfl | exact Or.inr rfl)) (pss_cons (ps_set (i := 3) sc_law.nd rfl (by first | exact Or.inl rfl | exact Or.inr rfl) (pe_cmpR op_eq (pe_c c__law_draw (hr.mono (by omega)) (pa_cons (pv 1) (pa_cons pe_int pa_nil))) pe_int (by first | exact nomark _ | rfl)))
      (pss_cons (ps_set (i := 4) sc_law.nd rfl (by first | exact Or.inl rfl | exact Or.inr rfl) (pe_c c__law_plan (hr.mono (by omega)) (pa_cons (pv 1) (pa_cons (pe_op op_add pe_int (pe_c c__law_draw (hr.mono (by omega)) (pa_cons (pv 1) (pa_cons pe_int pa_nil)))) (pa_cons pe_int pa_nil)))))
      (pss_cons (ps_set (i := 5) sc_law.nd rfl (by first | exact Or.inl rfl | exact Or.inr rfl) (pe_c c__law_numbers (hr.mono (by omega)) (pa_cons (pv 1) (pa_cons (pv 4) pa_nil))))
      (pss_cut (ps_if (pt_val (pv 3)) (pss_one (ps_setLc (i := 5) (own := [("_law_one", 6)]) (g := gName 6)  (by rfl) sc_law.nd rfl rfl (sw_true rfl rfl rfl (by decide +kernel)) (pi_list (pv 5)) (blkOk_by (own := [("_law_one", 6)]) (N := ["_law_script", "_law_deck_here", "_law_turn", "_law_few", "_law_plan_here", "_law_numbers_here", "_law_one", "_law_other", "_law_others_here", "_law_two_here", "_law_it", "_law_claim", "_law_told"]) (sc := defScope s_law) (by decide +kernel)) (fun _ _ _ _ _ => (pg_name (i := 6) sc_law.nd rfl (by first | exact Or.inl rfl | exact Or.inr rfl))) (fun _ _ _ _ _ => pts_nil) (fun _ _ _ _ _ => (pe_c c__law_pick (hr.mono (by omega)) (pa_cons (pv 1) (pa_cons (pe_lst (pa_cons (pe_tup (pa_cons pe_int (pa_cons pe_int pa_nil))) (pa_cons (pe_tup (pa_cons pe_int (pa_cons pe_int pa_nil))) (pa_cons (pe_tup (pa_cons pe_int (pa_cons pe_int pa_nil))) (pa_cons (pe_tup (pa_cons (pe_un un_neg pe_int) (pa_cons pe_int pa_nil))) pa_nil))))) pa_nil)))))) pss_nil)
      (pss_cons (ps_par (i := 7) (j := 8) (by rfl) sc_law.nd rfl rfl (by decide) rfl rfl (pa_cons (pe_c c__law_plan_led (hr.mono (by omega)) (pa_cons (pv 4) pa_nil)) (pa_cons (pe_c c__law_numbers_led (hr.mono (by omega)) (pa_cons (pv 4) (pa_cons (pv 5) pa_nil))) pa_nil)) (by rfl))
      (pss_cons (ps_par (i := 6) (j := 9) (by rfl) sc_law.nd rfl rfl (by decide) rfl rfl (pa_cons (pe_c c__law_shown (hr.mono (by omega)) (pa_cons (pe_c c_drawn (hr.mono (by omega)) (pa_cons (pv 4) (pa_cons (pe_c c__law_hand (hr.mono (by omega)) (pa_cons (pv 5) pa_nil)) pa_nil))) pa_nil)) (pa_cons (pe_c c__law_shown (hr.mono (by omega)) (pa_cons (pe_c c_drawn (hr.mono (by omega)) (pa_cons (pv 7) (pa_cons (pe_c c__law_hand (hr.mono (by omega)) (pa_cons (pv 8) pa_nil)) pa_nil))) pa_nil)) pa_nil)) (by rfl))
      (pss_cons (ps_if (pt_cmpR op_ne (pe_callB (call_reprD hgd hu dg) (by rfl) B.repr (by decide +kernel) (pa_cons (pv 9) pa_nil)) (pe_callB (call_reprD hgd hu dg) (by rfl) B.repr (by decide +kernel) (pa_cons (pe_callTy call_tuple_of (by rfl) B.tuple (by decide +kernel) (pa_cons (pe_lc (own := [("_law_it", 10)]) (g := gName 10)  (by rfl) sc_law.nd (pi_tup (pv 6)) (blkOk_by (own := [("_law_it", 10)]) (N := ["_law_script", "_law_deck_here", "_law_turn", "_law_few", "_law_plan_here", "_law_numbers_here", "_law_one", "_law_other", "_law_others_here", "_law_two_here", "_law_it", "_law_claim", "_law_told"]) (sc := defScope s_law) (by decide +kernel)) (fun _ _ _ _ _ => (pg_name (i := 10) sc_law.nd rfl (by first | exact Or.inl rfl | exact Or.inr rfl))) (fun _ _ _ _ _ => pts_nil) (fun _ _ _ _ _ => (pe_c c__law_thing_led (hr.mono (by omega)) (pa_cons (pv 10) pa_nil)))) pa_nil)) pa_nil)) (by first | exact nomark _ | rfl)) (pss_one (ps_ret pe_bl)) pss_nil)
      (pss_cons (ps_for PassesOwn.never rfl (pi_list (pe_c c__law_claims (hr.mono (by omega)) (pa_cons (pv 1) (pa_cons (pv 4) pa_nil)))) (pg_name (i := 11) sc_law.nd rfl (by first | exact Or.inl rfl | exact Or.inr rfl)) (pss_cons (ps_set (i := 12) sc_law.nd rfl (by first | exact Or.inl rfl | exact Or.inr rfl) (pe_lst (pa_cons (pe_c c_is_so (hr.mono (by omega)) (pa_cons (pv 4) (pa_cons (pe_c c__law_hand (hr.mono (by omega)) (pa_cons (pv 5) pa_nil)) (pa_cons (pv 11) pa_nil)))) (pa_cons (pe_c c_is_so (hr.mono (by omega)) (pa_cons (pv 7) (pa_cons (pe_c c__law_hand (hr.mono (by omega)) (pa_cons (pv 8) pa_nil)) (pa_cons (pv 11) pa_nil)))) pa_nil))))
      (pss_one (ps_if (pt_cmpR op_ne (pe_callB (call_reprL hgd hu) (by rfl) B.repr (by decide +kernel) (pa_cons (pv 12) pa_nil)) (pe_callB (call_reprL hgd hu) (by rfl) B.repr (by decide +kernel) (pa_cons (pe_op op_rep (pe_slice sl_list (pv 12) po_none (po_some pe_int)) pe_int) pa_nil)) (by first | exact nomark _ | rfl)) (pss_one (ps_ret pe_bl)) pss_nil))))
      (pss_one (ps_if (PW.pt (pw_or (pt_cmpR (op_neD hu2) (pe_c c__law_plan_led (hr.mono (by omega)) (pa_cons (pv 7) pa_nil)) (pv 4) (by first | exact nomark _ | rfl)) (pw_or1 (pt_cmpR (op_neD hu2) (pe_c c__law_numbers_led (hr.mono (by omega)) (pa_cons (pv 7) (pa_cons (pv 8) pa_nil))) (pv 5) (by first | exact nomark _ | rfl))))) (pss_one (ps_ret pe_bl)) pss_nil)))))))))))
      (pss_one (ps_ret pe_bl)))), ?_⟩
  refine ⟨_, rfl, .ref a, a, ns, rfl, rfl, h2, fun D C H1 s1 hD hC dk => ?_⟩
  refine gN ?_
  have T1 : Tabs T H1 := fun p hp => by
    rw [hT, List.mem_singleton] at hp
    subst hp
    exact TabS.nil (s1 _ _ h1)
  refine ⟨2, rfl, by decide, by decide, ?_⟩
  refine for_it (walk_range (lo := 0) (n := 2)) (fun i σ' H' => ∃ x2 x3 x4 x5 x6 x7 x8 x9 x10 x11 x12, σ' = [some (.ref a), some (.ref D), x2, x3, x4, x5, x6, x7, x8, x9, x10, x11, x12] ∧ Deck D C H' ∧ Tabs T H') ⟨none, none, none, none, none, none, none, none, none, none, none, rfl, dk, T1⟩ (fun i σ' H' _ h => trivial) (fun i z σ' H' H3 lt h y => ?_) fun σ' H' h => rfl
  clear h1 h2 s1 dk T1 hD hC
  obtain ⟨x2, x3, x4, x5, x6, x7, x8, x9, x10, x11, x12, rfl, dk, T0⟩ := h
  obtain ⟨rfl, rfl⟩ := y
  refine gN ?_
  -- few
  refine ⟨_, rfl, D, C, 2, rfl, by decide, by decide, dk, fun k1 Ha _ _ kpa dka => ⟨rfl, ?_⟩⟩
  refine gN ?_
  generalize decide (V.int k1 = V.int 1) = few
  have Ta := Ph.Tabs.kp T0 dk kpa
  -- plan
  refine ⟨_, rfl, _, rfl, D, C, 7, rfl, by decide, by decide, dka, fun k2 Hb j0 j7 kpb dkb => ?_⟩
  obtain ⟨m, rfl⟩ := Int.eq_ofNat_of_zero_le j0
  have Tb := Ph.Tabs.kp Ta dka kpb
  refine ⟨6, (m : Int), rfl, rfl, D, C, 6 + m, by rw [Int.natCast_add]; rfl, by omega, by omega, dkb, fun v pl Hc kpc dkc hp gok hl => ?_⟩
  refine gN ?_
  have Tc := Ph.Tabs.kp Tb dkb kpc
  -- numbers
  refine ⟨_, rfl, _, rfl, D, C, v, pl, rfl, hp, by omega, dkc, fun p qs Hd kpd dkd _ np nc hq ql qb => ?_⟩
  refine gN ?_
  have Td := Ph.Tabs.kp Tc dkc kpd
  have hp := mi_pl _ _ _ (kpd.immI dkc) hp
  have al := all_le pl
  refine ⟨fun σ' H' => ∃ p qs, σ' = [some (.ref a), some (.ref D), some (.int (0 + (i : Int))), some (.bl few), some v, some (.ref p), x6, x7, x8, x9, x10, x11, x12] ∧ Deck D C H' ∧ Tabs T H' ∧ PlA pl H' v ∧ p ≠ D ∧ p ≠ C ∧ QsL qs p H' ∧ qs.length = allN pl ∧ ∀ q ∈ qs, NumB q, ?_, ?_⟩
  · refine ⟨_, rfl, few, rfl, ?_⟩
    cases few with
    | false => exact no rfl ⟨p, qs, rfl, dkd, Td, hp, np, nc, hq, ql, qb⟩
    | true =>
      refine yes rfl ?_
      refine run_fews (a := a) dkd np nc hq (by omega) fun G rs H' kp' dk' _ g1 g2 hr rl rb => ?_
      exact ⟨G, rs, rfl, dk', Ph.Tabs.kp Td dkd kp', mi_pl _ _ _ (kp'.immI dkd) hp, g1, g2, hr, rl.trans ql, rb⟩
  clear Td Tc Tb Ta T0 dkd dkc dkb dka dk hq hp qb ql np nc kpd kpc kpb kpa
  rintro σ' H0 ⟨p, qs, rfl, dk, T0, hp, np, nc, hq, ql, qb⟩
  obtain ⟨odd, fa⟩ := facts pl qs gok (by omega) (by omega) ql qb
  have pok := fa.d1.ok
  have pok2 := fa.d2.ok
  have mb : mirPl (mirPl pl) = pl := mir_mir fun x s h => (g4 gok h)
  have lm : (mirPl pl).length = pl.length := by simp [mirPl]
  have nm : (mirPl pl).names = pl.names := mir_names pl
  have al2 := all_le (mirPl pl)
  have q100 : qs.length ≤ 100 := by omega
  have l100 : (ledN odd pl qs).length ≤ 100 := by
    have := fa.all2
    omega
  -- other, others
  refine ⟨_, rfl, v, pl, rfl, hp, by omega, fun x p' q' k h => (g4 gok h p' q' k rfl).2, fun vl H1 s1 hvl => ⟨_, rfl, _, rfl, v, p, pl, qs, odd, rfl, mo_pl _ _ _ s1 hp, hq.same s1, by omega, gok.nd, ql, fa.odd1, fun pL H2 s2 fpL hqL => ?_⟩⟩
  refine ⟨_, _, rfl, ?_⟩
  have s02 := s1.trans s2
  have dk2 := dk.same s02
  obtain ⟨mL, mL'⟩ := (dk.same s1).neD fpL
  have hp2 := mo_pl _ _ _ s02 hp
  have hv2 := mo_pl _ _ _ s2 hvl
  have hq2 := hq.same s02
  have T2 := T0.ext s02
  clear dk hp hq T0 hvl s1 s2 s02
  -- one, two
  refine ⟨_, rfl, _, rfl, p, qs, rfl, hq2, by omega, pok.sm, fun r1 H3 s3 hr1 => ⟨v, r1, pl, qs, rfl, mo_pl _ _ _ s3 hp2, hr1, pok, T2.ext s3, fun r2 H4 e4 T4 hd => ⟨r2, _, rfl, ths_tr (by rw [fa.d1.len]; omega) hd, fun u1 H5 s5 hu1 => ?_⟩⟩⟩
  have e5 := ((ExtN.of s3).trans e4).trans (ExtN.of s5)
  have im5 := SameI.ofN e5
  refine ⟨_, rfl, _, rfl, pL, _, rfl, hqL.ext e5, by omega, pok2.sm, fun r3 H6 s6 hr3 => ⟨vl, r3, mirPl pl, _, rfl, mo_pl _ _ _ s6 (mi_pl _ _ _ im5 hv2), hr3, pok2, (T4.ext s5).ext s6, fun r4 H7 e7 T7 hd2 => ⟨r4, _, rfl, ths_tr (by rw [fa.d2.len]; omega) hd2, fun u2 H8 s8 hu2 => ?_⟩⟩⟩
  have e58 := ((ExtN.of s6).trans e7).trans (ExtN.of s8)
  have e8 := e5.trans e58
  refine ⟨_, _, rfl, ?_⟩
  have hu1 : DtA 5 (.tuple ((draw pl qs).map thD)) H8 u1 := mi_dt _ _ _ (SameI.ofN e58) hu1
  rw [fa.led] at hu2
  have im8 := SameI.ofN e8
  have dk8 := dk2.ext e8
  have hp8 := mi_pl _ _ _ im8 hp2
  have hv8 := mi_pl _ _ _ im8 hv2
  have hq8 := hq2.ext e8
  have hL8 := hqL.ext e8
  have T8 := T7.ext s8
  clear hr1 hr3 hd hd2 hp2 hv2 hq2 hqL T2 T4 T7 e58 e8 e7 e5 e4 s3 s5 s6 s8 im5 im8 dk2
  -- the two drawings are shown alike
  have lled : lim (.tuple ((draw pl qs).map ledD)) = true ∧ (PyData.tuple ((draw pl qs).map ledD)).shown.length ≤ sizeLine := ths_lim (by rw [List.length_map, fa.d1.len]; omega) fun d hd => by
    obtain ⟨o, ho, rfl⟩ := List.mem_map.mp hd
    exact fa.lim2 o ho
  refine ⟨_, rfl, 4, u2, _, rfl, by decide, hu2, lled.1, lled.2, ?_⟩
  have ndr := fa.d1.len
  have e1 : EG (LsA (draw pl qs).length (fun i => DtA 4 (((draw pl qs).map ledD).getD i .none))) (tLc (iTup K (tVar 6)) (gName 10) tYes (tCall spThingLed [] E0 (tCons (tVar 10) tNil)) [10]) [some (.ref a), some (.ref D), some (.int (0 + (i : Int))), some (.bl few), some v, some (.ref p), some u1, some vl, some (.ref pL), some u2, x10, x11, x12] H8 := by
    obtain ⟨ta, ts, rfl, hta, tn, te⟩ := hu1.tup
    refine eg_comp (B := fun i => DtA 4 (((draw pl qs).map thD).getD i .none)) (ig_tup (fun i => mi_dt.mo) (eg_var rfl (mo_tpA fun i => mi_dt.mo) ⟨ta, ts, rfl, hta, by rw [tn, List.length_map], fun j lt => ?_⟩)) (by omega) (fun i => mi_dt) (fun j x H9 s9 lt hx => ⟨_, fun Q q => q, rfl, fun H10 s10 Q q => ?_⟩)
    · obtain ⟨y, y1, y2⟩ := te j (((draw pl qs).map thD)[j]'(by rw [List.length_map]; exact lt)) (List.getElem?_eq_getElem _)
      refine ⟨y, y1, ?_⟩
      show DtA 4 (((draw pl qs).map thD).getD j .none) H8 y
      rw [List.getD_eq_getElem?_getD, List.getElem?_eq_getElem (by rw [List.length_map]; exact lt)]
      exact y2
    · have eo : (draw pl qs)[j]? = some (draw pl qs)[j] := List.getElem?_eq_getElem lt
      have ea : ((draw pl qs).map thD).getD j .none = thD (draw pl qs)[j] := by rw [List.getD_eq_getElem?_getD, List.getElem?_map, eo]; rfl
      have eb : ((draw pl qs).map ledD).getD j .none = ledD (draw pl qs)[j] := by rw [List.getD_eq_getElem?_getD, List.getElem?_map, eo]; rfl
      rw [ea] at hx
      refine ⟨_, rfl, x, (draw pl qs)[j], rfl, mi_dt.mo _ _ _ s10 hx, fun u H11 s11 hu => ?_⟩
      rw [← eb] at hu
      exact q u H11 s11 hu
  refine cb1 (cb1 ?_)
  refine e1.run fun r H9 s9 ⟨G, ys, e, hG, yn, yb⟩ => ?_
  subst e
  refine ⟨G, ys, rfl, .inl ⟨SqL.of hG, fun l hl2 => ?_⟩⟩
  have s10 := same_new (o := .tup ys) hl2
  have s9A := s9.trans s10
  have hlr : DtA 5 (.tuple ((draw pl qs).map ledD)) (upd H9 l (.tup ys)) (.ref l) := .inr (.inr (.inr ⟨_, rfl, by rw [List.length_map]; omega, tup_of_ls (A := DtA 4) (x0 := .none) ⟨l, ys, rfl, upd_same, by rw [List.length_map]; exact yn, fun j lt => let ⟨y, y1, y2⟩ := yb j (by rw [List.length_map] at lt; exact lt); ⟨y, y1, mi_dt.mo _ _ _ s10 y2⟩⟩⟩))
  refine ⟨4, .ref l, _, rfl, by decide, hlr, lled.1, lled.2, rfl, _, rfl, no (by rw [decide_eq_true rfl]; rfl) ?_⟩
  have dk9 := dk8.same s9A
  have hp9 := mo_pl _ _ _ s9A hp8
  have hv9 := mo_pl _ _ _ s9A hv8
  have hq9 := hq8.same s9A
  have hL9 := hL8.same s9A
  have T9 := T8.ext s9A
  generalize upd H9 l (.tup ys) = Hn at dk9 hp9 hv9 hq9 hL9 T9
  clear hlr s9A s10 hl2 e1 lled hu1 hu2 dk8 hp8 hv8 hq8 hL8 T8 hG s9 yb
  -- the claims
  have k0 : 0 < (knownN pl .pt).length := by
    have : (pl[0]?).isSome := by simp; omega
    obtain ⟨⟨x, s⟩, h0⟩ := Option.isSome_iff_exists.mp this
    have := gok.free2 0 x s (by decide) h0
    subst this
    exact List.length_pos_of_mem (mem_known.mpr ⟨_, List.mem_of_getElem? h0, rfl⟩)
  refine ⟨_, rfl, _, rfl, D, C, v, pl, rfl, hp9, gok, by omega, k0, dk9, fun pc cs Hj kpj dkj _ pc1 pc2 ⟨vs, hcs, hev⟩ cl8 cn => ⟨pc, rfl, ⟨vs, SqL.of hcs⟩, ?_⟩⟩
  have im := kpj.immI dk9
  have Tj := Ph.Tabs.kp T9 dk9 kpj
  have hpj := mi_pl _ _ _ im hp9
  have hvj := mi_pl _ _ _ im hv9
  have hqj := hq9.kp dk9 np nc kpj
  have hLj := hL9.kp dk9 mL mL' kpj
  refine for_it (walk_list (K := K) (xs := vs)) (fun j σ' H' => ∃ x11 x12, σ' = [some (.ref a), some (.ref D), some (.int (0 + (i : Int))), some (.bl few), some v, some (.ref p), some u1, some vl, some (.ref pL), some u2, x10, x11, x12] ∧ ExtN Hj H' ∧ Tabs T H') ⟨x11, x12, rfl, ExtN.refl _, Tj⟩ (fun j σ' H' _ h => ?_) (fun j z σ' H' H3 lt h y => ?_) fun σ' H' h => ?_
  · obtain ⟨_, _, _, e, _⟩ := h
    exact SqL.of (e _ _ hcs fun ps z => by cases z)
  · obtain ⟨x11, x12, rfl, ee, TT⟩ := h
    obtain ⟨rfl, hz⟩ := y
    have vl0 : vs.length = cs.length := hev.1
    obtain ⟨c, hc⟩ : ∃ c, cs[j]? = some c := ⟨_, List.getElem?_eq_getElem (by omega)⟩
    obtain ⟨z', z1, hcz⟩ := hev.2 j c hc
    obtain rfl : z' = z := Option.some.inj (z1.symm.trans hz)
    obtain ⟨ok1, ok2, tel⟩ := fa.cl c (cn c (List.mem_of_getElem? hc))
    have i3 := SameI.ofN ee
    refine gN ?_
    -- told
    refine ⟨_, rfl, _, rfl, p, qs, rfl, hqj.ext ee, by omega, pok.sm, fun r1 K1 t1 hr1 => ⟨_, rfl, ?_⟩⟩
    have j1 := SameI.of t1
    refine ⟨v, r1, z', pl, qs, c, rfl, mi_pl _ _ _ (i3.trans j1) hpj, hr1, pok, fa.d1.len, TT.ext t1, mi_cl _ _ _ (i3.trans j1) hcz, ok1, fa.d1.sm, fun K2 eK T2 => ?_⟩
    have e2 := (ee.trans (ExtN.of t1)).trans eK
    refine ⟨_, rfl, _, rfl, pL, _, rfl, hLj.ext e2, by omega, pok2.sm, fun r2 K3 t3 hr2 => ⟨_, rfl, ?_⟩⟩
    have e3 := e2.trans (ExtN.of t3)
    have i4 := SameI.ofN e3
    have sm2 := fa.d2.sm
    have len2 := fa.d2.len
    have ok2 : ClOk (envN (mirPl pl) (draw (mirPl pl) (ledN odd pl qs)) (mirPl pl).length) c := by
      rw [lm]
      exact ok2
    have tel : told (envN (mirPl pl) (draw (mirPl pl) (ledN odd pl qs)) (mirPl pl).length) c = told (envN pl (draw pl qs) pl.length) c := by
      rw [lm]
      exact tel
    refine ⟨vl, r2, z', mirPl pl, _, c, rfl, mi_pl _ _ _ i4 hvj, hr2, pok2, len2, T2.ext t3, mi_cl _ _ _ i4 hcz, ok2, sm2, fun K4 eK4 T4 => ⟨by show 2 ≤ sizeLine; decide, fun q hq0 => ?_⟩⟩
    rw [tel]
    refine gN ?_
    generalize told (envN pl (draw pl qs) pl.length) c = tl
    have s5 := same_new (o := .lst [toldV tl, toldV tl]) hq0
    have e5 := (e3.trans eK4).trans (ExtN.of s5)
    refine ⟨_, rfl, q, tl, tl, rfl, upd_same, ?_⟩
    refine ⟨_, rfl, 1, rfl, q, _, rfl, SqL.of upd_same, fun l1 hl1 => ?_⟩
    have s6 := same_new (o := .lst [toldV tl]) hl1
    refine ⟨l1, 2, [toldV tl], rfl, rfl, upd_same, by decide, by decide, by show 1 * 2 ≤ sizeLine; decide, fun l2 hl2 => ?_⟩
    have s7 := same_new (o := .lst [toldV tl, toldV tl]) hl2
    refine ⟨l2, tl, tl, rfl, upd_same, rfl, _, rfl, no (by rw [decide_eq_true rfl]; rfl) ?_⟩
    exact ⟨_, _, rfl, (e5.trans (ExtN.of s6)).trans (ExtN.of s7), ((T4.ext s5).ext s6).ext s7⟩
  · obtain ⟨x11, x12, rfl, ee, TT⟩ := h
    have i3 := SameI.ofN ee
    have hv3 := mi_pl _ _ _ i3 hvj
    have hp3 := mi_pl _ _ _ i3 hpj
    have hL3 := hLj.ext ee
    have hq3 := hqj.ext ee
    have dk3 := dkj.ext ee
    refine ⟨_, rfl, vl, mirPl pl, rfl, hv3, by omega, fun x p' q' k h => ?_, fun w1 K1 t1 hw => ?_⟩
    · obtain ⟨⟨y, t⟩, ht, e⟩ := List.mem_map.mp h
      have e2 : mirS t = .turn p' q' k := congrArg Prod.snd e
      cases t with
      | turn p2 q2 k2 =>
        have := Stp.turn.inj e2
        have := this.2.2
        omega
      | free => cases e2
      | on l => cases e2
      | round l => cases e2
      | other l c p => cases e2
      | two b x y => cases e2
    rw [mb] at hw
    refine ⟨_, rfl, _, _, dp_plan hw, dp_plan (mo_pl _ _ _ t1 hp3), shaped_plan gok, shaped_plan gok, ?_⟩
    rw [SeqAt.eqv_refl _ (lay_shaped (shaped_plan gok))]
    refine ⟨_, rfl, no rfl ?_⟩
    refine ⟨_, rfl, _, rfl, vl, pL, mirPl pl, _, odd, rfl, mo_pl _ _ _ t1 hv3, hL3.same t1, by omega, by rw [nm]; exact gok.nd, fa.all2, fa.odd2, fun w2 K2 t2 _ hw2 => ?_⟩
    rw [fa.back] at hw2
    refine ⟨_, rfl, _, _, dp_qs hw2, dp_qs ((hq3.same t1).same t2), shaped_qs qs, shaped_qs qs, ?_⟩
    rw [SeqAt.eqv_refl _ (lay_shaped (shaped_qs qs))]
    refine ⟨_, rfl, no rfl ?_⟩
    have s12 := t1.trans t2
    exact ⟨_, _, _, _, _, _, _, _, _, _, _, rfl, dk3.same s12, TT.ext s12⟩
end
end Ph
set_option linter.all false
set_option maxRecDepth 100000
set_option maxHeartbeats 4000000
namespace Ph
open PySem PySem.Spec PyProof.Rows L2 LamX
/-! ### likenesses of the plane -/
structure Sim where
  a : P2
  m : P2
  e : Rat
def Sim.D (S : Sim) : Rat := S.m.1 * S.m.1 + S.m.2 * S.m.2
structure Sim.Ok (S : Sim) : Prop where
  ee : S.e * S.e = 1
  D0 : S.D ≠ 0
def Sim.M (S : Sim) (w : P2) : P2 := (S.m.1 * w.1 - S.m.2 * (S.e * w.2), S.m.2 * w.1 + S.m.1 * (S.e * w.2))
def Sim.ph (S : Sim) (p : P2) : P2 := (S.a.1 + (S.M p).1, S.a.2 + (S.M p).2)
def scV (k : Rat) (w : P2) : P2 := (k * w.1, k * w.2)
def Sim.L (S : Sim) (l : L3) : L3 := scaleL (S.M (dirL l)).1 (S.M (dirL l)).2 (S.D * l.2.2 + dotP S.a (S.M (dirL l)))
def Sim.T (S : Sim) (k : Rat) : Thg → Thg
  | .pt p => .pt (S.ph p)
  | .ln l b w => .ln (S.L l) (S.ph b) (scV k (S.M w))
  | .ci m p => .ci (S.ph m) (S.ph p)
theorem P2.ext {p q : P2} (h1 : p.1 = q.1) (h2 : p.2 = q.2) : p = q := Prod.ext h1 h2
theorem L3.ext {p q : L3} (h1 : p.1 = q.1) (h2 : p.2.1 = q.2.1) (h3 : p.2.2 = q.2.2) : p = q := Prod.ext h1 (Prod.ext h2 h3)
theorem scale_k {k A B C : Rat} (h : k ≠ 0) : scaleL (k * A) (k * B) (k * C) = scaleL A B C := by
  unfold scaleL
  by_cases z : A = 0
  · have z2 : k * A = 0 := by grind
    rw [if_neg (fun y => y z2), if_neg (fun y => y z)]
    by_cases y : B = 0
    · subst y
      simp [z, Rat.div_def]
    · refine L3.ext ?_ ?_ ?_ <;> dsimp only <;> grind
  · have z2 : k * A ≠ 0 := by grind
    rw [if_pos z2, if_pos z]
    refine L3.ext ?_ ?_ ?_ <;> dsimp only <;> grind
/-- a line's numbers are a multiple of any of its equations -/
theorem scale_form {A B C : Rat} (h : A ≠ 0 ∨ B ≠ 0) : ∃ k : Rat, k ≠ 0 ∧ scaleL A B C = (k * A, k * B, k * C) := by
  unfold scaleL
  by_cases z : A = 0
  · have y : B ≠ 0 := h.resolve_left fun q => q z
    rw [if_neg (fun y => y z)]
    exact ⟨1 / B, by grind, L3.ext (by dsimp only; grind) (by dsimp only; grind) (by dsimp only; grind)⟩
  · rw [if_pos z]
    exact ⟨1 / A, by grind, L3.ext (by dsimp only; grind) (by dsimp only; grind) (by dsimp only; grind)⟩
def NzV (w : P2) : Prop := w.1 ≠ 0 ∨ w.2 ≠ 0
theorem nz_dot {w : P2} (h : NzV w) : dotP w w ≠ 0 := by
  intro z
  have h0 : w.1 * w.1 + w.2 * w.2 = 0 := z
  have a : 0 ≤ w.1 * w.1 := by
    rcases Rat.le_total (a := 0) (b := w.1) with x | x
    · exact Rat.mul_nonneg x x
    · have e : w.1 * w.1 = (-w.1) * (-w.1) := by grind
      rw [e]
      exact Rat.mul_nonneg (by grind) (by grind)
  have b : 0 ≤ w.2 * w.2 := by
    rcases Rat.le_total (a := 0) (b := w.2) with x | x
    · exact Rat.mul_nonneg x x
    · have e : w.2 * w.2 = (-w.2) * (-w.2) := by grind
      rw [e]
      exact Rat.mul_nonneg (by grind) (by grind)
  have e1 : w.1 * w.1 = 0 := by grind
  have e2 : w.2 * w.2 = 0 := by grind
  rcases h with h | h <;> grind
section
variable {S : Sim}
theorem Sim.Ok.e0 (h : S.Ok) : S.e ≠ 0 := by have := h.ee; grind
theorem Sim.Ok.d (h : S.Ok) : S.m.1 * S.m.1 + S.m.2 * S.m.2 ≠ 0 := h.D0
theorem M_dot (h : S.Ok) (p q : P2) : dotP (S.M p) (S.M q) = S.D * dotP p q := by
  have := h.ee
  simp only [dotP, Sim.M, Sim.D]
  grind
theorem M_crs (h : S.Ok) (p q : P2) : crsP (S.M p) (S.M q) = S.e * S.D * crsP p q := by
  have := h.ee
  simp only [crsP, Sim.M, Sim.D]
  grind
theorem M_left (h : S.Ok) (w : P2) : leftP (S.M w) = scV S.e (S.M (leftP w)) := by
  have := h.ee
  refine P2.ext ?_ ?_ <;> simp only [leftP, Sim.M, scV] <;> grind
theorem M_way (p q : P2) : wayB (S.ph p) (S.ph q) = S.M (wayB p q) := by
  refine P2.ext ?_ ?_ <;> simp only [wayB, Sim.M, Sim.ph] <;> grind
theorem M_gone (p w : P2) (t : Rat) : goneP (S.ph p) (S.M w) t = S.ph (goneP p w t) := by
  refine P2.ext ?_ ?_ <;> simp only [goneP, Sim.M, Sim.ph] <;> grind
theorem gone_k (p w : P2) (k t : Rat) : goneP p (scV k w) t = goneP p w (k * t) := by
  refine P2.ext ?_ ?_ <;> simp only [goneP, scV] <;> grind
theorem M_mul (k : Rat) (w : P2) : S.M (scV k w) = scV k (S.M w) := by
  refine P2.ext ?_ ?_ <;> simp only [Sim.M, scV] <;> grind
theorem M_nz (h : S.Ok) {w : P2} (z : NzV w) : NzV (S.M w) := by
  have d := M_dot h w w
  have n := nz_dot z
  have dd := h.D0
  by_cases y : NzV (S.M w)
  · exact y
  · have y1 : (S.M w).1 = 0 := by
      by_cases q : (S.M w).1 = 0
      · exact q
      · exact absurd (Or.inl q) y
    have y2 : (S.M w).2 = 0 := by
      by_cases q : (S.M w).2 = 0
      · exact q
      · exact absurd (Or.inr q) y
    have : dotP (S.M w) (S.M w) = 0 := by simp only [dotP, y1, y2]; grind
    grind
theorem M_inj (h : S.Ok) {p q : P2} (e : S.ph p = S.ph q) : p = q := by
  by_cases z : NzV (wayB p q)
  · have n := M_nz h z
    rw [← M_way, e] at n
    rcases n with n | n
    · exact absurd (show (S.ph q).1 - (S.ph q).1 = 0 by grind) n
    · exact absurd (show (S.ph q).2 - (S.ph q).2 = 0 by grind) n
  · have z1 : q.1 - p.1 = 0 := by
      by_cases y : q.1 - p.1 = 0
      · exact y
      · exact absurd (Or.inl y) z
    have z2 : q.2 - p.2 = 0 := by
      by_cases y : q.2 - p.2 = 0
      · exact y
      · exact absurd (Or.inr y) z
    exact P2.ext (by grind) (by grind)
/-- what a line's image is -/
theorem L_of (h : S.Ok) {A B C : Rat} (z : NzV (A, B)) : S.L (scaleL A B C) = scaleL (S.M (A, B)).1 (S.M (A, B)).2 (S.D * C + dotP S.a (S.M (A, B))) := by
  obtain ⟨k, k0, e⟩ := scale_form (C := C) z
  rw [e]
  unfold Sim.L
  rw [← scale_k (k := k) (A := (S.M (A, B)).1) (B := (S.M (A, B)).2) (C := S.D * C + dotP S.a (S.M (A, B))) k0]
  have e1 : S.M (dirL (k * A, k * B, k * C)) = scV k (S.M (A, B)) := M_mul k (A, B)
  rw [e1]
  congr 1
  simp only [scV, dotP]
  grind
theorem L_form (h : S.Ok) {l : L3} (z : NzV (dirL l)) : ∃ k : Rat, k ≠ 0 ∧ S.L l = (k * (S.M (dirL l)).1, k * (S.M (dirL l)).2, k * (S.D * l.2.2 + dotP S.a (S.M (dirL l)))) := scale_form (M_nz h z)
theorem L_by (h : S.Ok) {p w : P2} (z : NzV w) : S.L (lineBy p w) = lineBy (S.ph p) (S.M w) := by
  unfold lineBy
  rw [L_of h (show NzV (w.1, w.2) from z)]
  have e := M_dot h p w
  congr 1
  simp only [Sim.ph, dotP] at *
  grind
theorem by_k {p w : P2} {k : Rat} (h : k ≠ 0) : lineBy p (scV k w) = lineBy p w := by
  unfold lineBy
  rw [← scale_k h (A := w.1) (B := w.2)]
  congr 1
  simp only [scV, dotP]
  grind
theorem dir_by {p w : P2} (z : NzV w) : ∃ k : Rat, k ≠ 0 ∧ dirL (lineBy p w) = scV k w := by
  obtain ⟨k, k0, e⟩ := scale_form (C := dotP p w) z
  exact ⟨k, k0, by unfold lineBy; rw [e]; rfl⟩
theorem nz_mul {k : Rat} {w : P2} (h : k ≠ 0) (z : NzV w) : NzV (scV k w) := by
  rcases z with z | z
  · exact .inl (by show k * w.1 ≠ 0; grind)
  · exact .inr (by show k * w.2 ≠ 0; grind)
theorem nz_left {w : P2} (z : NzV w) : NzV (leftP w) := by
  rcases z with z | z
  · exact .inr z
  · exact .inl (by show 0 - w.2 ≠ 0; grind)
theorem L_nz (h : S.Ok) {l : L3} (z : NzV (dirL l)) : NzV (dirL (S.L l)) := by
  obtain ⟨k, k0, e⟩ := L_form h z
  rw [e]
  exact nz_mul k0 (M_nz h z)
theorem L_dir (h : S.Ok) {l : L3} (z : NzV (dirL l)) : ∃ k : Rat, k ≠ 0 ∧ dirL (S.L l) = scV k (S.M (dirL l)) := by
  obtain ⟨k, k0, e⟩ := L_form h z
  exact ⟨k, k0, by rw [e]; rfl⟩
theorem left_k (k : Rat) (w : P2) : leftP (scV k w) = scV k (leftP w) := by
  refine P2.ext ?_ ?_ <;> simp only [leftP, scV] <;> grind
/-! the makers -/
theorem L_through (h : S.Ok) {p q : P2} (z : p ≠ q) : throughL (S.ph p) (S.ph q) = S.L (throughL p q) := by
  have n : NzV (wayB p q) := by
    by_cases y : NzV (wayB p q)
    · exact y
    · exfalso
      refine z (P2.ext ?_ ?_)
      · by_cases x : q.1 - p.1 = 0
        · grind
        · exact absurd (Or.inl x) y
      · by_cases x : q.2 - p.2 = 0
        · grind
        · exact absurd (Or.inr x) y
  unfold throughL
  rw [M_way, M_left h, by_k h.e0, L_by h (nz_left n)]
theorem L_along (h : S.Ok) {p : P2} {l : L3} (z : NzV (dirL l)) : alongL (S.ph p) (S.L l) = S.L (alongL p l) := by
  obtain ⟨k, k0, e⟩ := L_dir h z
  unfold alongL
  rw [e, by_k k0, L_by h z]
theorem L_upright (h : S.Ok) {p : P2} {l : L3} (z : NzV (dirL l)) : uprightL (S.ph p) (S.L l) = S.L (uprightL p l) := by
  obtain ⟨k, k0, e⟩ := L_dir h z
  unfold uprightL
  rw [e, left_k, by_k k0, M_left h, by_k h.e0, L_by h (nz_left z)]
theorem far_L (h : S.Ok) {p : P2} {l : L3} (z : NzV (dirL l)) (t : Rat) : goneP (S.ph p) (dirL (S.L l)) (farL (S.ph p) (S.L l) * t) = S.ph (goneP p (dirL l) (farL p l * t)) := by
  obtain ⟨k, k0, e⟩ := L_form h z
  have n := nz_dot z
  have d := M_dot h (dirL l) (dirL l)
  have dp := M_dot h p (dirL l)
  have D0 := h.D0
  rw [← M_gone]
  have e1 : dirL (S.L l) = scV k (S.M (dirL l)) := by rw [e]; rfl
  rw [e1, gone_k]
  congr 1
  unfold farL
  rw [e1, e]
  have q1 : dotP (scV k (S.M (dirL l))) (scV k (S.M (dirL l))) = k * k * (S.D * dotP (dirL l) (dirL l)) := by
    rw [← d]
    simp only [dotP, scV]
    grind
  have q2 : dotP (S.ph p) (scV k (S.M (dirL l))) = k * (dotP S.a (S.M (dirL l)) + S.D * dotP p (dirL l)) := by
    rw [← dp]
    simp only [dotP, scV, Sim.ph]
    grind
  rw [q1, q2]
  dsimp only
  generalize dotP (dirL l) (dirL l) = N at *
  generalize dotP p (dirL l) = X at *
  generalize dotP S.a (S.M (dirL l)) = Y at *
  generalize S.D = D at *
  grind
theorem foot_L (h : S.Ok) {p : P2} {l : L3} (z : NzV (dirL l)) : footP (S.ph p) (S.L l) = S.ph (footP p l) := by
  have := far_L h (p := p) z 1
  unfold footP
  rw [Rat.mul_one, Rat.mul_one] at this
  exact this
theorem mirr_L (h : S.Ok) {p : P2} {l : L3} (z : NzV (dirL l)) : mirP (S.ph p) (S.L l) = S.ph (mirP p l) := far_L h z 2
theorem oth_L (h : S.Ok) {p o : P2} {l : L3} (z : NzV (dirL l)) : othP (S.L l) (S.ph o) (S.ph p) = S.ph (othP l o p) := by
  unfold othP
  rw [L_upright h z]
  refine mirr_L h ?_
  obtain ⟨k, k0, e⟩ := dir_by (p := o) (nz_left z)
  unfold uprightL
  rw [e]
  exact nz_mul k0 (nz_left z)
theorem mid_L (p q : P2) : midP (S.ph p) (S.ph q) = S.ph (midP p q) := by
  unfold midP
  rw [M_way, M_gone]
theorem crs_L (h : S.Ok) {l n : L3} (z : NzV (dirL l)) (y : NzV (dirL n)) : ∃ k j : Rat, k ≠ 0 ∧ j ≠ 0 ∧ crsP (dirL (S.L l)) (dirL (S.L n)) = k * j * (S.e * S.D * crsP (dirL l) (dirL n)) := by
  obtain ⟨k, k0, e⟩ := L_dir h z
  obtain ⟨j, j0, g⟩ := L_dir h y
  refine ⟨k, j, k0, j0, ?_⟩
  rw [e, g, ← M_crs h]
  simp only [crsP, scV]
  grind
/-- a point told by two equations -/
theorem meet_one {l n : L3} {p : P2} (c : crsP (dirL l) (dirL n) ≠ 0) (h1 : dotP p (dirL l) = l.2.2) (h2 : dotP p (dirL n) = n.2.2) : meetP l n = p := by
  unfold meetP meetX meetY
  simp only [crsP, dotP, dirL] at *
  refine P2.ext ?_ ?_ <;> dsimp only <;> grind
theorem meet_on {l n : L3} (c : crsP (dirL l) (dirL n) ≠ 0) : dotP (meetP l n) (dirL l) = l.2.2 ∧ dotP (meetP l n) (dirL n) = n.2.2 := by
  unfold meetP meetX meetY
  simp only [crsP, dotP, dirL] at *
  constructor <;> grind
theorem on_L (h : S.Ok) {l : L3} {p : P2} (z : NzV (dirL l)) (e : dotP p (dirL l) = l.2.2) : dotP (S.ph p) (dirL (S.L l)) = (S.L l).2.2 := by
  obtain ⟨k, k0, g⟩ := L_form h z
  have dp := M_dot h p (dirL l)
  rw [g]
  show dotP (S.ph p) (scV k (S.M (dirL l))) = _
  have q2 : dotP (S.ph p) (scV k (S.M (dirL l))) = k * (dotP S.a (S.M (dirL l)) + S.D * dotP p (dirL l)) := by
    rw [← dp]
    simp only [dotP, scV, Sim.ph]
    grind
  rw [q2, e]
  dsimp only
  grind
theorem meet_L (h : S.Ok) {l n : L3} (z : NzV (dirL l)) (y : NzV (dirL n)) (c : crsP (dirL l) (dirL n) ≠ 0) : meetP (S.L l) (S.L n) = S.ph (meetP l n) := by
  obtain ⟨h1, h2⟩ := meet_on c
  obtain ⟨k, j, k0, j0, e⟩ := crs_L h z y
  have D0 := h.D0
  have e0 := h.e0
  exact meet_one (by rw [e]; grind) (on_L h z h1) (on_L h y h2)
theorem on_round (h : S.Ok) (m p : P2) (t : Rat) : onP (S.ph m) (S.ph p) (S.e * t) = S.ph (onP m p t) := by
  have ee := h.ee
  have q1 : S.e * t * (S.e * t) = t * t := by grind
  unfold onP
  rw [q1, M_way, M_gone, M_left h, gone_k]
  have q2 : S.e * ((S.e * t + S.e * t) / (1 + t * t)) = (t + t) / (1 + t * t) := by
    rw [Rat.div_def, Rat.div_def]
    grind
  rw [q2, M_gone]
end
end Ph
set_option linter.all false
set_option maxRecDepth 100000
set_option maxHeartbeats 4000000
namespace Ph
open PySem PySem.Spec PyProof.Rows L2 LamX
/-! ### a drawing under a likeness -/
def NzT : Thg → Prop
  | .ln l _ _ => NzV (dirL l)
  | _ => True
/-- the sign that a line's way takes -/
def sgK (S : Sim) (b : Bn) (j : Rat) : Rat := match b with
  | .along => j
  | .upright => j * S.e
  | _ => 1
section
variable {S : Sim}
theorem sc_sc (k j : Rat) (w : P2) : scV k (scV j w) = scV (k * j) w := by
  refine P2.ext ?_ ?_ <;> simp only [scV] <;> grind
theorem sc_one (w : P2) : scV 1 w = w := by
  refine P2.ext ?_ ?_ <;> simp only [scV] <;> grind
theorem mkB_T (h : S.Ok) {b : Bn} {s t : Thg} (zs : NzT s) (zt : NzT t) (k j : Rat) : mkB b (S.T k s) (S.T j t) = (mkB b s t).map (S.T (sgK S b j)) := by
  cases b with
  | meet =>
    cases s with
    | pt p => cases t <;> rfl
    | ci m p => cases t <;> rfl
    | ln l b w =>
      cases t with
      | pt p => rfl
      | ci m p => rfl
      | ln n c v =>
        obtain ⟨k, j, k0, j0, e⟩ := crs_L h (l := l) (n := n) zs zt
        have D0 := h.D0
        have e0 := h.e0
        show (if crsP (dirL (S.L l)) (dirL (S.L n)) = 0 then none else some (Thg.pt (meetP (S.L l) (S.L n)))) = Option.map _ (if crsP (dirL l) (dirL n) = 0 then none else some (Thg.pt (meetP l n)))
        by_cases c0 : crsP (dirL l) (dirL n) = 0
        · rw [if_pos c0, if_pos (by rw [e, c0]; grind)]
          rfl
        · rw [if_neg c0, if_neg (by rw [e]; grind), meet_L h zs zt c0]
          rfl
  | middle =>
    cases s with
    | ln l b w => cases t <;> rfl
    | ci m p => cases t <;> rfl
    | pt p =>
      cases t with
      | ln l b w => rfl
      | ci m p => rfl
      | pt q =>
        show some (Thg.pt (midP (S.ph p) (S.ph q))) = some (Thg.pt (S.ph (midP p q)))
        rw [mid_L]
  | foot =>
    cases s with
    | ln l b w => cases t <;> rfl
    | ci m p => cases t <;> rfl
    | pt p =>
      cases t with
      | pt q => rfl
      | ci m p => rfl
      | ln l b w =>
        show some (Thg.pt (footP (S.ph p) (S.L l))) = some (Thg.pt (S.ph (footP p l)))
        rw [foot_L h zt]
  | mirror =>
    cases s with
    | ln l b w => cases t <;> rfl
    | ci m p => cases t <;> rfl
    | pt p =>
      cases t with
      | pt q => rfl
      | ci m p => rfl
      | ln l b w =>
        show some (Thg.pt (mirP (S.ph p) (S.L l))) = some (Thg.pt (S.ph (mirP p l)))
        rw [mirr_L h zt]
  | line =>
    cases s with
    | ln l b w => cases t <;> rfl
    | ci m p => cases t <;> rfl
    | pt p =>
      cases t with
      | ln l b w => rfl
      | ci m p => rfl
      | pt q =>
        show (if S.ph p = S.ph q then none else some (Thg.ln (throughL (S.ph p) (S.ph q)) (S.ph p) (wayB (S.ph p) (S.ph q)))) = Option.map _ (if p = q then none else some (Thg.ln (throughL p q) p (wayB p q)))
        by_cases c0 : p = q
        · rw [if_pos c0, if_pos (by rw [c0])]
          rfl
        · rw [if_neg c0, if_neg (fun z => c0 (M_inj h z)), L_through h c0, M_way]
          show _ = some (Thg.ln (S.L (throughL p q)) (S.ph p) (scV 1 (S.M (wayB p q))))
          rw [sc_one]
  | along =>
    cases s with
    | ln l b w => cases t <;> rfl
    | ci m p => cases t <;> rfl
    | pt p =>
      cases t with
      | pt q => rfl
      | ci m p => rfl
      | ln l b w =>
        show some (Thg.ln (alongL (S.ph p) (S.L l)) (S.ph p) (scV j (S.M w))) = some (Thg.ln (S.L (alongL p l)) (S.ph p) (scV j (S.M w)))
        rw [L_along h zt]
  | upright =>
    cases s with
    | ln l b w => cases t <;> rfl
    | ci m p => cases t <;> rfl
    | pt p =>
      cases t with
      | pt q => rfl
      | ci m p => rfl
      | ln l b w =>
        show some (Thg.ln (uprightL (S.ph p) (S.L l)) (S.ph p) (leftP (scV j (S.M w)))) = some (Thg.ln (S.L (uprightL p l)) (S.ph p) (scV (j * S.e) (S.M (leftP w))))
        rw [L_upright h zt, left_k, M_left h, sc_sc]
  | circle =>
    cases s with
    | ln l b w => cases t <;> rfl
    | ci m p => cases t <;> rfl
    | pt p =>
      cases t with
      | ln l b w => rfl
      | ci m p => rfl
      | pt q =>
        show (if S.ph p = S.ph q then none else some (Thg.ci (S.ph p) (S.ph q))) = Option.map _ (if p = q then none else some (Thg.ci p q))
        by_cases c0 : p = q
        · rw [if_pos c0, if_pos (by rw [c0])]
          rfl
        · rw [if_neg c0, if_neg (fun z => c0 (M_inj h z))]
          rfl
/-- a line that is made is one -/
theorem mkB_nz {b : Bn} {s t o : Thg} (zs : NzT s) (zt : NzT t) (e : mkB b s t = some o) : NzT o := by
  cases o with
  | pt p => trivial
  | ci m p => trivial
  | ln n c v =>
    cases b with
    | meet =>
      cases s with
      | pt p => cases t <;> cases e
      | ci m p => cases t <;> cases e
      | ln l b w =>
        cases t with
        | pt p => cases e
        | ci m p => cases e
        | ln l2 b2 w2 =>
          have e : (if crsP (dirL l) (dirL l2) = 0 then none else some (Thg.pt (meetP l l2))) = some (Thg.ln n c v) := e
          by_cases c0 : crsP (dirL l) (dirL l2) = 0
          · rw [if_pos c0] at e
            cases e
          · rw [if_neg c0] at e
            cases e
    | middle => cases s <;> cases t <;> cases e
    | foot => cases s <;> cases t <;> cases e
    | mirror => cases s <;> cases t <;> cases e
    | line =>
      cases s with
      | ln l b w => cases t <;> cases e
      | ci m p => cases t <;> cases e
      | pt p =>
        cases t with
        | ln l b w => cases e
        | ci m p => cases e
        | pt q =>
          have e : (if p = q then none else some (Thg.ln (throughL p q) p (wayB p q))) = some (Thg.ln n c v) := e
          by_cases c0 : p = q
          · rw [if_pos c0] at e
            cases e
          · rw [if_neg c0] at e
            cases e
            have nw : NzV (wayB c q) := by
              by_cases y : NzV (wayB c q)
              · exact y
              · exfalso
                refine c0 (P2.ext ?_ ?_)
                · by_cases x : q.1 - c.1 = 0
                  · grind
                  · exact absurd (Or.inl x) y
                · by_cases x : q.2 - c.2 = 0
                  · grind
                  · exact absurd (Or.inr x) y
            obtain ⟨k, k0, g⟩ := dir_by (p := c) (nz_left nw)
            show NzV (dirL (lineBy c (leftP (wayB c q))))
            rw [g]
            exact nz_mul k0 (nz_left nw)
    | along =>
      cases s with
      | ln l b w => cases t <;> cases e
      | ci m p => cases t <;> cases e
      | pt p =>
        cases t with
        | pt q => cases e
        | ci m p => cases e
        | ln l b w =>
          cases e
          obtain ⟨k, k0, g⟩ := dir_by (p := c) (show NzV (dirL l) from zt)
          show NzV (dirL (lineBy c (dirL l)))
          rw [g]
          exact nz_mul k0 zt
    | upright =>
      cases s with
      | ln l b w => cases t <;> cases e
      | ci m p => cases t <;> cases e
      | pt p =>
        cases t with
        | pt q => cases e
        | ci m p => cases e
        | ln l b w =>
          cases e
          obtain ⟨k, k0, g⟩ := dir_by (p := c) (nz_left (show NzV (dirL l) from zt))
          show NzV (dirL (lineBy c (leftP (dirL l))))
          rw [g]
          exact nz_mul k0 (nz_left zt)
    | circle =>
      cases s with
      | ln l b w => cases t <;> cases e
      | ci m p => cases t <;> cases e
      | pt p =>
        cases t with
        | ln l b w => cases e
        | ci m p => cases e
        | pt q =>
          have e : (if p = q then none else some (Thg.ci p q)) = some (Thg.ln n c v) := e
          by_cases c0 : p = q
          · rw [if_pos c0] at e
            cases e
          · rw [if_neg c0] at e
            cases e
end
/-! whole drawings -/
def sg (S : Sim) (odd : Str → Bool) (x : Str) : Rat := if odd x = true then S.e else 1
theorem sg_sq {S : Sim} (h : S.Ok) (odd : Str → Bool) (x : Str) : sg S odd x * sg S odd x = 1 := by
  unfold sg
  split
  · exact h.ee
  · grind
/-- which lines' ways are turned oddly -/
structure OddS (pl : Pl) (odd : Str → Bool) : Prop where
  line : ∀ x p q, (x, Stp.two .line p q) ∈ pl → odd x = false
  along : ∀ x p l, (x, Stp.two .along p l) ∈ pl → odd x = odd l
  upright : ∀ x p l, (x, Stp.two .upright p l) ∈ pl → odd x = !odd l
def stS (r : Bool) (s : Stp) : Stp := if r = true then mirS s else s
def plS (r : Bool) (pl : Pl) : Pl := pl.map fun s => (s.1, stS r s.2)
def nsS (S : Sim) (odd : Str → Bool) : Pl → List Rat → List Rat
  | [], _ => []
  | (_, .free) :: r, a :: b :: qs => (S.ph (a, b)).1 :: (S.ph (a, b)).2 :: nsS S odd r qs
  | (_, .round _) :: r, a :: qs => S.e * a :: nsS S odd r qs
  | (_, .on l) :: r, a :: qs => sg S odd l * a :: nsS S odd r qs
  | _ :: r, qs => nsS S odd r qs
def evS (S : Sim) (odd : Str → Bool) (E : Ev) : Ev := E.map fun q => (q.1, q.2.map (S.T (sg S odd q.1)))
theorem evS_l {S : Sim} {odd : Str → Bool} : ∀ {E : Ev} {x : Str}, eL (evS S odd E) x = (eL E x).map fun o => o.map (S.T (sg S odd x))
  | [], _ => rfl
  | (y, o) :: E, x => by
    show (if x = y then some (o.map (S.T (sg S odd y))) else eL (evS S odd E) x) = Option.map _ (if x = y then some o else eL E x)
    by_cases z : x = y
    · subst z
      rw [if_pos rfl, if_pos rfl]
      rfl
    · rw [if_neg z, if_neg z]
      exact evS_l
theorem evS_t {S : Sim} {odd : Str → Bool} {E : Ev} {x : Str} : thg (evS S odd E) x = (thg E x).map (S.T (sg S odd x)) := by
  unfold thg
  rw [evS_l]
  cases eL E x with
  | none => rfl
  | some o => rfl
theorem turn_T {S : Sim} (h : S.Ok) {r : Bool} (hr : S.e = if r = true then -1 else 1) {p o : P2} {k : Nat} (k1 : 1 ≤ k) (k3 : k ≤ 3) : turnP (S.ph p) (S.ph o) (if r = true then 4 - k else k) = S.ph (turnP p o k) := by
  unfold turnP
  rw [M_way, ← M_gone]
  congr 1
  cases r with
  | false =>
    have e1 : S.e = 1 := hr
    have lf : ∀ w, leftP (S.M w) = S.M (leftP w) := fun w => by rw [M_left h, e1, sc_one]
    have key : ∀ n w, leftN n (S.M w) = S.M (leftN n w) := fun n => by
      induction n with
      | zero => intro w; rfl
      | succ n ih =>
        intro w
        show leftP (leftN n (S.M w)) = S.M (leftP (leftN n w))
        rw [ih, lf]
    exact key k _
  | true =>
    have e1 : S.e = -1 := hr
    have lf : ∀ w, leftP (S.M w) = scV (-1) (S.M (leftP w)) := fun w => by rw [M_left h, e1]
    generalize wayB o p = w
    show leftN (4 - k) (S.M w) = S.M (leftN k w)
    have ll : ∀ v : P2, leftP (leftP v) = scV (-1) v := fun v => by
      refine P2.ext ?_ ?_ <;> simp only [leftP, scV] <;> grind
    have m1 : ∀ v : P2, S.M (scV (-1) v) = scV (-1) (S.M v) := fun v => M_mul (-1) v
    match k, k1, k3 with
    | 1, _, _ =>
      show leftP (leftP (leftP (S.M w))) = S.M (leftP w)
      rw [ll, lf, sc_sc]
      rw [show (-1 : Rat) * -1 = 1 by decide +kernel, sc_one]
    | 2, _, _ =>
      show leftP (leftP (S.M w)) = S.M (leftP (leftP w))
      rw [ll, ll, m1]
    | 3, _, _ =>
      show leftP (S.M w) = S.M (leftP (leftP (leftP w)))
      rw [ll, m1, lf]
theorem pt_any {S : Sim} {k j : Rat} {c : Prop} [Decidable c] {p : P2} : Option.map (S.T k) (if c then none else some (Thg.pt p)) = Option.map (S.T j) (if c then none else some (Thg.pt p)) := by
  split <;> rfl
theorem ci_any {S : Sim} {k j : Rat} {c : Prop} [Decidable c] {p q : P2} : Option.map (S.T k) (if c then none else some (Thg.ci p q)) = Option.map (S.T j) (if c then none else some (Thg.ci p q)) := by
  split <;> rfl
theorem mkS_T {S : Sim} (h : S.Ok) {r : Bool} (hr : S.e = if r = true then -1 else 1) {odd : Str → Bool} {pl : Pl} (ho : OddS pl odd) {E : Ev} (nz : ∀ x t, thg E x = some t → NzT t) {x : Str} {s : Stp} (hs : (x, s) ∈ pl) (hk : ∀ p q k, s = .turn p q k → 1 ≤ k ∧ k ≤ 3) {qs : List Rat} (hl : s.takes ≤ qs.length) :
    mkS (evS S odd E) (stS r s) ((nsS S odd [(x, s)] qs).take s.takes) = (mkS E s (qs.take s.takes)).map (S.T (sg S odd x)) := by
  cases s with
  | free =>
    obtain ⟨a, b, r2, rfl⟩ : ∃ a b r, qs = a :: b :: r := match qs, hl with
      | a :: b :: r, _ => ⟨a, b, r, rfl⟩
      | [_], h => by simp [Stp.takes] at h
      | [], h => by simp [Stp.takes] at h
    cases r <;> rfl
  | on l =>
    obtain ⟨a, r2, rfl⟩ : ∃ a r, qs = a :: r := match qs, hl with
      | a :: r, _ => ⟨a, r, rfl⟩
      | [], h => by simp [Stp.takes] at h
    have e1 : stS r (.on l) = .on l := by cases r <;> rfl
    rw [e1]
    show mkS (evS S odd E) (.on l) [sg S odd l * a] = (mkS E (.on l) [a]).map _
    have et := evS_t (S := S) (odd := odd) (E := E) (x := l)
    cases q : thg E l with
    | none =>
      rw [q] at et
      have et : thg (evS S odd E) l = none := et
      simp only [mkS, et, q]
      rfl
    | some t =>
      rw [q] at et
      cases t with
      | pt p =>
        have et : thg (evS S odd E) l = some (.pt (S.ph p)) := et
        simp only [mkS, et, q]
        rfl
      | ci m p =>
        have et : thg (evS S odd E) l = some (.ci (S.ph m) (S.ph p)) := et
        simp only [mkS, et, q]
        rfl
      | ln n b w =>
        have et : thg (evS S odd E) l = some (.ln (S.L n) (S.ph b) (scV (sg S odd l) (S.M w))) := et
        have sq := sg_sq h odd l
        simp only [mkS, et, q]
        rw [gone_k, ← Rat.mul_assoc, sq, Rat.one_mul, M_gone]
        rfl
  | round l =>
    obtain ⟨a, r2, rfl⟩ : ∃ a r, qs = a :: r := match qs, hl with
      | a :: r, _ => ⟨a, r, rfl⟩
      | [], h => by simp [Stp.takes] at h
    have e1 : stS r (.round l) = .round l := by cases r <;> rfl
    rw [e1]
    show mkS (evS S odd E) (.round l) [S.e * a] = (mkS E (.round l) [a]).map _
    have et := evS_t (S := S) (odd := odd) (E := E) (x := l)
    cases q : thg E l with
    | none =>
      rw [q] at et
      have et : thg (evS S odd E) l = none := et
      simp only [mkS, et, q]
      rfl
    | some t =>
      rw [q] at et
      cases t with
      | pt p =>
        have et : thg (evS S odd E) l = some (.pt (S.ph p)) := et
        simp only [mkS, et, q]
        rfl
      | ln n b w =>
        have et : thg (evS S odd E) l = some (.ln (S.L n) (S.ph b) (scV (sg S odd l) (S.M w))) := et
        simp only [mkS, et, q]
        rfl
      | ci m p =>
        have et : thg (evS S odd E) l = some (.ci (S.ph m) (S.ph p)) := et
        simp only [mkS, et, q]
        rw [on_round h]
        rfl
  | turn p q k =>
    obtain ⟨k1, k3⟩ := hk p q k rfl
    have tt := fun a b : P2 => turn_T h hr (p := a) (o := b) k1 k3
    have e1 : stS r (.turn p q k) = .turn p q (if r = true then 4 - k else k) := by cases r <;> rfl
    rw [e1]
    have ep := evS_t (S := S) (odd := odd) (E := E) (x := p)
    have eq := evS_t (S := S) (odd := odd) (E := E) (x := q)
    cases hp : thg E p with
    | none =>
      rw [hp] at ep
      have ep : thg (evS S odd E) p = none := ep
      simp only [mkS, ep, hp]
      rfl
    | some tp =>
      rw [hp] at ep
      cases tp with
      | ci m p =>
        have ep : thg (evS S odd E) _ = some (.ci (S.ph m) (S.ph p)) := ep
        simp only [mkS, ep, hp]
        rfl
      | ln n b w =>
        have ep : thg (evS S odd E) p = some (.ln (S.L n) (S.ph b) (scV (sg S odd p) (S.M w))) := ep
        simp only [mkS, ep, hp]
        rfl
      | pt a =>
        have ep : thg (evS S odd E) p = some (.pt (S.ph a)) := ep
        cases hq : thg E q with
        | none =>
          rw [hq] at eq
          have eq : thg (evS S odd E) q = none := eq
          simp only [mkS, ep, hp, eq, hq]
          rfl
        | some tq =>
          rw [hq] at eq
          cases tq with
          | ci m p =>
            have eq : thg (evS S odd E) q = some (.ci (S.ph m) (S.ph p)) := eq
            simp only [mkS, ep, hp, eq, hq]
            rfl
          | ln n b w =>
            have eq : thg (evS S odd E) q = some (.ln (S.L n) (S.ph b) (scV (sg S odd q) (S.M w))) := eq
            simp only [mkS, ep, hp, eq, hq]
            rfl
          | pt b =>
            have eq : thg (evS S odd E) q = some (.pt (S.ph b)) := eq
            simp only [mkS, ep, hp, eq, hq]
            rw [tt]
            rfl
  | other l c p =>
    have e1 : stS r (.other l c p) = .other l c p := by cases r <;> rfl
    rw [e1]
    have el := evS_t (S := S) (odd := odd) (E := E) (x := l)
    have ec := evS_t (S := S) (odd := odd) (E := E) (x := c)
    have ep := evS_t (S := S) (odd := odd) (E := E) (x := p)
    have nl := nz l
    simp only [mkS]
    rw [el, ec, ep]
    generalize thg E l = tl at nl
    generalize thg E c = tc
    generalize thg E p = tp
    rcases tl with _ | (_ | ⟨n, b, w⟩ | _)
    · rfl
    · rfl
    · rcases tc with _ | (_ | _ | ⟨m, q⟩)
      · rfl
      · rfl
      · rfl
      · rcases tp with _ | (a | _ | _)
        · rfl
        · show some (Thg.pt (othP (S.L n) (S.ph m) (S.ph a))) = some (Thg.pt (S.ph (othP n m a)))
          rw [oth_L h (nl _ rfl)]
        · rfl
        · rfl
    · rfl
  | two b p q =>
    have e1 : stS r (.two b p q) = .two b p q := by cases r <;> rfl
    rw [e1]
    have ep := evS_t (S := S) (odd := odd) (E := E) (x := p)
    have eq := evS_t (S := S) (odd := odd) (E := E) (x := q)
    have np := nz p
    have nq := nz q
    simp only [mkS]
    rw [ep, eq]
    generalize thg E p = tp at np
    generalize thg E q = tq at nq
    rcases tp with _ | a
    · rfl
    · rcases tq with _ | c
      · rfl
      · show mkB b (S.T (sg S odd p) a) (S.T (sg S odd q) c) = Option.map (S.T (sg S odd x)) (mkB b a c)
        rw [mkB_T h (np _ rfl) (nq _ rfl)]
        cases b with
        | line =>
          have e2 : sg S odd x = 1 := by unfold sg; rw [ho.line x p q hs]; rfl
          rw [e2]
          rfl
        | along =>
          have e2 : sg S odd x = sg S odd q := by unfold sg; rw [ho.along x p q hs]
          rw [e2]
          rfl
        | upright =>
          have ee := h.ee
          have e2 : sg S odd x = sg S odd q * S.e := by
            unfold sg
            rw [ho.upright x p q hs]
            cases odd q with
            | true => exact ee.symm
            | false => exact (Rat.one_mul _).symm
          rw [e2]
          rfl
        | meet => rcases a with _ | _ | _ <;> rcases c with _ | _ | _ <;> first | rfl | exact pt_any
        | middle => rcases a with _ | _ | _ <;> rcases c with _ | _ | _ <;> rfl
        | foot => rcases a with _ | _ | _ <;> rcases c with _ | _ | _ <;> rfl
        | mirror => rcases a with _ | _ | _ <;> rcases c with _ | _ | _ <;> rfl
        | circle => rcases a with _ | _ | _ <;> rcases c with _ | _ | _ <;> first | rfl | exact ci_any
end Ph
set_option linter.all false
set_option maxRecDepth 100000
set_option maxHeartbeats 4000000
namespace Ph
open PySem PySem.Spec PyProof.Rows L2 LamX
theorem takes_S (r : Bool) (s : Stp) : (stS r s).takes = s.takes := by
  cases r <;> cases s <;> rfl
theorem nsS_cut {S : Sim} {odd : Str → Bool} {x : Str} {s : Stp} {r : Pl} {qs : List Rat} (hl : s.takes ≤ qs.length) :
    (nsS S odd ((x, s) :: r) qs).take s.takes = (nsS S odd [(x, s)] qs).take s.takes ∧ (nsS S odd ((x, s) :: r) qs).drop s.takes = nsS S odd r (qs.drop s.takes) := by
  cases s with
  | free =>
    obtain ⟨a, b, r2, rfl⟩ : ∃ a b r, qs = a :: b :: r := match qs, hl with
      | a :: b :: r, _ => ⟨a, b, r, rfl⟩
      | [_], h => by simp [Stp.takes] at h
      | [], h => by simp [Stp.takes] at h
    exact ⟨rfl, rfl⟩
  | on l =>
    obtain ⟨a, r2, rfl⟩ : ∃ a r, qs = a :: r := match qs, hl with
      | a :: r, _ => ⟨a, r, rfl⟩
      | [], h => by simp [Stp.takes] at h
    exact ⟨rfl, rfl⟩
  | round l =>
    obtain ⟨a, r2, rfl⟩ : ∃ a r, qs = a :: r := match qs, hl with
      | a :: r, _ => ⟨a, r, rfl⟩
      | [], h => by simp [Stp.takes] at h
    exact ⟨rfl, rfl⟩
  | turn p q k => exact ⟨rfl, rfl⟩
  | other l c p => exact ⟨rfl, rfl⟩
  | two b p q => exact ⟨rfl, rfl⟩
theorem mkS_nz {E : Ev} (nz : ∀ x t, thg E x = some t → NzT t) {s : Stp} {ns : List Rat} {t : Thg} (e : mkS E s ns = some t) : NzT t := by
  cases t with
  | pt p => trivial
  | ci m p => trivial
  | ln n b w =>
    cases s with
    | free =>
      match ns, e with
      | [a, b], e => cases e
      | [], e => cases e
      | [_], e => cases e
      | _ :: _ :: _ :: _, e => cases e
    | on l =>
      match ns, e with
      | [], e => cases e
      | [a], e =>
        have e : (match thg E l with | some (.ln _ b w) => some (Thg.pt (goneP b w a)) | _ => none) = some (Thg.ln n b w) := e
        split at e <;> cases e
      | _ :: _ :: _, e => cases e
    | round l =>
      match ns, e with
      | [], e => cases e
      | [a], e =>
        have e : (match thg E l with | some (.ci m p) => some (Thg.pt (onP m p a)) | _ => none) = some (Thg.ln n b w) := e
        split at e <;> cases e
      | _ :: _ :: _, e => cases e
    | turn p q k =>
      have e : (match thg E p, thg E q with | some (.pt a), some (.pt b) => some (Thg.pt (turnP a b k)) | _, _ => none) = some (Thg.ln n b w) := e
      split at e <;> cases e
    | other l c p =>
      have e : (match thg E l, thg E c, thg E p with | some (.ln n _ _), some (.ci m _), some (.pt a) => some (Thg.pt (othP n m a)) | _, _, _ => none) = some (Thg.ln n b w) := e
      split at e <;> cases e
    | two k p q =>
      have e : (match thg E p, thg E q with | some s, some t => mkB k s t | _, _ => none) = some (Thg.ln n b w) := e
      cases hp : thg E p with
      | none =>
        rw [hp] at e
        cases e
      | some a =>
        rw [hp] at e
        cases hq : thg E q with
        | none =>
          rw [hq] at e
          cases e
        | some c =>
          rw [hq] at e
          exact mkB_nz (nz _ _ hp) (nz _ _ hq) e
theorem thg_cons {E : Ev} {x y : Str} {o : Option Thg} : thg ((x, o) :: E) y = if y = x then o else thg E y := by
  unfold thg
  show (if y = x then some o else eL E y).getD none = _
  split <;> rfl
theorem allN_drop {pl : Pl} {i : Nat} {x : Str} {s : Stp} (hi : pl[i]? = some (x, s)) : allN (pl.drop i) = s.takes + allN (pl.drop (i + 1)) := by
  obtain ⟨lt, e⟩ := List.getElem?_eq_some_iff.mp hi
  rw [List.drop_eq_getElem_cons lt, e, allN_cons]
theorem stAt_succ {pl : Pl} {qs : List Rat} {i : Nat} {x : Str} {s : Stp} (hi : pl[i]? = some (x, s)) :
    stAt pl qs (i + 1) = ((x, mkS (stAt pl qs i).1 s ((stAt pl qs i).2.take s.takes)) :: (stAt pl qs i).1, (stAt pl qs i).2.drop s.takes) := by
  show (match pl[i]? with | some (x, s) => ((x, mkS (stAt pl qs i).1 s ((stAt pl qs i).2.take s.takes)) :: (stAt pl qs i).1, (stAt pl qs i).2.drop s.takes) | none => stAt pl qs i) = _
  rw [hi]
/-- as many numbers as the steps ask for -/
theorem stAt_len2 {pl : Pl} {qs : List Rat} (hq : qs.length = allN pl) : ∀ i, i ≤ pl.length → (stAt pl qs i).2.length = allN (pl.drop i)
  | 0, _ => hq
  | i + 1, hi => by
    have ih := stAt_len2 hq i (by omega)
    obtain ⟨x, s, h⟩ : ∃ x s, pl[i]? = some (x, s) := ⟨_, _, List.getElem?_eq_getElem (by omega)⟩
    rw [stAt_succ h]
    rw [allN_drop h] at ih
    simp only [List.length_drop]
    omega
theorem stAt_nz {pl : Pl} {qs : List Rat} : ∀ i, i ≤ pl.length → ∀ x t, thg (stAt pl qs i).1 x = some t → NzT t
  | 0, _, x, t, h => by cases h
  | i + 1, hi, y, t, h => by
    have ih := stAt_nz (pl := pl) (qs := qs) i (by omega)
    obtain ⟨x, s, hp⟩ : ∃ x s, pl[i]? = some (x, s) := ⟨_, _, List.getElem?_eq_getElem (by omega)⟩
    rw [stAt_succ hp, thg_cons] at h
    by_cases z : y = x
    · rw [if_pos z] at h
      exact mkS_nz ih h
    · rw [if_neg z] at h
      exact ih y t h
/-- the drawing of the likeness -/
theorem stAt_T {S : Sim} (h : S.Ok) {r : Bool} (hr : S.e = if r = true then -1 else 1) {odd : Str → Bool} {pl : Pl} (ho : OddS pl odd) (hk : ∀ x p q k, (x, Stp.turn p q k) ∈ pl → 1 ≤ k ∧ k ≤ 3) {qs : List Rat} (hq : qs.length = allN pl) :
    ∀ i, i ≤ pl.length → stAt (plS r pl) (nsS S odd pl qs) i = (evS S odd (stAt pl qs i).1, nsS S odd (pl.drop i) (stAt pl qs i).2)
  | 0, _ => rfl
  | i + 1, hi => by
    have ih := stAt_T h hr ho hk hq i (by omega)
    obtain ⟨x, s, hp⟩ : ∃ x s, pl[i]? = some (x, s) := ⟨_, _, List.getElem?_eq_getElem (by omega)⟩
    have hp2 : (plS r pl)[i]? = some (x, stS r s) := by
      unfold plS
      rw [List.getElem?_map, hp]
      rfl
    have ln := stAt_len2 hq i (by omega)
    rw [allN_drop hp] at ln
    obtain ⟨lt, e⟩ := List.getElem?_eq_some_iff.mp hp
    have ed : pl.drop i = (x, s) :: pl.drop (i + 1) := by rw [List.drop_eq_getElem_cons lt, e]
    rw [stAt_succ hp2, stAt_succ hp, ih, takes_S, ed]
    dsimp only
    obtain ⟨c1, c2⟩ := nsS_cut (S := S) (odd := odd) (x := x) (s := s) (r := pl.drop (i + 1)) (qs := (stAt pl qs i).2) (by omega)
    have mem := List.mem_of_getElem? hp
    rw [c1, c2, mkS_T h hr ho (stAt_nz i (by omega)) mem (fun p q k e => by subst e; exact hk _ _ _ _ mem) (by omega)]
    rfl
theorem drop_all {pl : Pl} : pl.drop pl.length = [] := List.drop_length
theorem draw_T {S : Sim} (h : S.Ok) {r : Bool} (hr : S.e = if r = true then -1 else 1) {odd : Str → Bool} {pl : Pl} (ho : OddS pl odd) (hk : ∀ x p q k, (x, Stp.turn p q k) ∈ pl → 1 ≤ k ∧ k ≤ 3) {qs : List Rat} (hq : qs.length = allN pl) :
    draw (plS r pl) (nsS S odd pl qs) = ((evS S odd (stAt pl qs pl.length).1).map (·.2)).reverse := by
  have ln : (plS r pl).length = pl.length := by simp [plS]
  unfold draw
  rw [ln, stAt_T h hr ho hk hq pl.length (Nat.le_refl _)]
/-! names of the drawing -/
theorem stAt_names {pl : Pl} {qs : List Rat} : ∀ i, i ≤ pl.length → (stAt pl qs i).1.map (·.1) = ((pl.take i).map (·.1)).reverse
  | 0, _ => rfl
  | i + 1, hi => by
    have ih := stAt_names (pl := pl) (qs := qs) i (by omega)
    obtain ⟨x, s, hp⟩ : ∃ x s, pl[i]? = some (x, s) := ⟨_, _, List.getElem?_eq_getElem (by omega)⟩
    obtain ⟨lt, e⟩ := List.getElem?_eq_some_iff.mp hp
    rw [stAt_succ hp, List.take_succ_eq_append_getElem lt, e, List.map_append, List.reverse_append, List.map_cons, ih]
    rfl
theorem draw_len {pl : Pl} {qs : List Rat} : (draw pl qs).length = pl.length := by
  have := congrArg List.length (stAt_names (pl := pl) (qs := qs) pl.length (Nat.le_refl _))
  simp only [List.length_map, List.length_reverse, List.take_length] at this
  unfold draw
  rw [List.length_reverse, List.length_map, this]
end Ph
set_option linter.all false
set_option maxRecDepth 100000
set_option maxHeartbeats 4000000
namespace Ph
open PySem PySem.Spec PyProof.Rows L2 LamX
/-! ### what is said of points, under a likeness -/
section
variable {S : Sim}
theorem mul0 {k x : Rat} (h : k ≠ 0) : (k * x = 0) ↔ (x = 0) := ⟨fun z => by grind, fun z => by grind⟩
theorem dec_iff {p q : Prop} [Decidable p] [Decidable q] (h : p ↔ q) : decide p = decide q := decide_eq_decide.mpr h
theorem M_zero (h : S.Ok) (w : P2) : ((S.M w).1 = 0 ∧ (S.M w).2 = 0) ↔ (w.1 = 0 ∧ w.2 = 0) := by
  constructor
  · intro ⟨a, b⟩
    by_cases z : NzV w
    · rcases M_nz h z with y | y
      · exact absurd a y
      · exact absurd b y
    · constructor
      · by_cases y : w.1 = 0
        · exact y
        · exact absurd (Or.inl y) z
      · by_cases y : w.2 = 0
        · exact y
        · exact absurd (Or.inr y) z
  · intro ⟨a, b⟩
    simp only [Sim.M, a, b]
    constructor <;> grind
theorem say_one (h : S.Ok) (ps : List P2) : sayOne (ps.map S.ph) = sayOne ps := by
  match ps with
  | [] => rfl
  | [_] => rfl
  | [p, q] =>
    show (decide ((wayB (S.ph p) (S.ph q)).1 = 0) && decide ((wayB (S.ph p) (S.ph q)).2 = 0)) = (decide ((wayB p q).1 = 0) && decide ((wayB p q).2 = 0))
    rw [M_way, ← Bool.decide_and, ← Bool.decide_and]
    exact dec_iff (M_zero h _)
  | _ :: _ :: _ :: _ => rfl
theorem say_row (h : S.Ok) (ps : List P2) : sayRow (ps.map S.ph) = sayRow ps := by
  have D0 := h.D0
  have e0 := h.e0
  match ps with
  | [] => rfl
  | [_] => rfl
  | [_, _] => rfl
  | [p, q, r] =>
    show decide (crsP (wayB (S.ph p) (S.ph q)) (wayB (S.ph p) (S.ph r)) = 0) = decide (crsP (wayB p q) (wayB p r) = 0)
    rw [M_way, M_way, M_crs h]
    exact dec_iff (mul0 (by grind))
  | _ :: _ :: _ :: _ :: _ => rfl
theorem say_along (h : S.Ok) (ps : List P2) : sayAlong (ps.map S.ph) = sayAlong ps := by
  have D0 := h.D0
  have e0 := h.e0
  match ps with
  | [] => rfl
  | [_] => rfl
  | [_, _] => rfl
  | [_, _, _] => rfl
  | [p, q, r, s] =>
    show decide (crsP (wayB (S.ph p) (S.ph q)) (wayB (S.ph r) (S.ph s)) = 0) = decide (crsP (wayB p q) (wayB r s) = 0)
    rw [M_way, M_way, M_crs h]
    exact dec_iff (mul0 (by grind))
  | _ :: _ :: _ :: _ :: _ :: _ => rfl
theorem say_upright (h : S.Ok) (ps : List P2) : sayUpright (ps.map S.ph) = sayUpright ps := by
  have D0 := h.D0
  match ps with
  | [] => rfl
  | [_] => rfl
  | [_, _] => rfl
  | [_, _, _] => rfl
  | [p, q, r, s] =>
    show decide (dotP (wayB (S.ph p) (S.ph q)) (wayB (S.ph r) (S.ph s)) = 0) = decide (dotP (wayB p q) (wayB r s) = 0)
    rw [M_way, M_way, M_dot h]
    exact dec_iff (mul0 D0)
  | _ :: _ :: _ :: _ :: _ :: _ => rfl
theorem say_alike (h : S.Ok) (ps : List P2) : sayAlike (ps.map S.ph) = sayAlike ps := by
  have D0 := h.D0
  match ps with
  | [] => rfl
  | [_] => rfl
  | [_, _] => rfl
  | [_, _, _] => rfl
  | [p, q, r, s] =>
    show decide (dotP (wayB (S.ph p) (S.ph q)) (wayB (S.ph p) (S.ph q)) - dotP (wayB (S.ph r) (S.ph s)) (wayB (S.ph r) (S.ph s)) = 0) = decide (dotP (wayB p q) (wayB p q) - dotP (wayB r s) (wayB r s) = 0)
    rw [M_way, M_way, M_dot h, M_dot h]
    refine dec_iff ⟨fun z => ?_, fun z => ?_⟩ <;> grind
  | _ :: _ :: _ :: _ :: _ :: _ => rfl
theorem say_angle6 (h : S.Ok) (a b c d e f : P2) : sayAngle [S.ph a, S.ph b, S.ph c, S.ph d, S.ph e, S.ph f] = sayAngle [a, b, c, d, e, f] := by
  have D0 := h.D0
  have e0 := h.e0
  show decide (crsP (wayB (S.ph b) (S.ph a)) (wayB (S.ph b) (S.ph c)) * dotP (wayB (S.ph e) (S.ph d)) (wayB (S.ph e) (S.ph f)) - crsP (wayB (S.ph e) (S.ph d)) (wayB (S.ph e) (S.ph f)) * dotP (wayB (S.ph b) (S.ph a)) (wayB (S.ph b) (S.ph c)) = 0) = decide (crsP (wayB b a) (wayB b c) * dotP (wayB e d) (wayB e f) - crsP (wayB e d) (wayB e f) * dotP (wayB b a) (wayB b c) = 0)
  rw [M_way, M_way, M_way, M_way, M_crs h, M_crs h, M_dot h, M_dot h]
  have k0 : S.e * S.D * S.D ≠ 0 := by grind
  refine (dec_iff ?_).trans (dec_iff (mul0 k0))
  constructor <;> intro z <;> grind
theorem say_angle (h : S.Ok) (ps : List P2) : sayAngle (ps.map S.ph) = sayAngle ps := by
  match ps with
  | [] => rfl
  | [_] => rfl
  | [_, _] => rfl
  | [_, _, _] => rfl
  | [_, _, _, _] => rfl
  | [_, _, _, _, _] => rfl
  | [a, b, c, d, e, f] => exact say_angle6 h a b c d e f
  | _ :: _ :: _ :: _ :: _ :: _ :: _ :: _ => rfl
theorem say_ring (h : S.Ok) (ps : List P2) : sayRing (ps.map S.ph) = sayRing ps := by
  match ps with
  | [] => rfl
  | [_] => rfl
  | [_, _] => rfl
  | [_, _, _] => rfl
  | [p, q, r, s] => exact say_angle6 h p r q p s q
  | _ :: _ :: _ :: _ :: _ :: _ => rfl
theorem say_all (h : S.Ok) (j : Jd) (ps : List P2) : j.say (ps.map S.ph) = j.say ps := by
  cases j with
  | same => exact say_one h ps
  | row => exact say_row h ps
  | along => exact say_along h ps
  | upright => exact say_upright h ps
  | alike => exact say_alike h ps
  | angle => exact say_angle h ps
  | ring => exact say_ring h ps
  | lies => rfl
theorem say_at (h : S.Ok) {p : P2} {t : Thg} (z : NzT t) (k : Rat) : sayAt (S.ph p) (S.T k t) = sayAt p t := by
  have D0 := h.D0
  cases t with
  | pt q => rfl
  | ln l b w =>
    obtain ⟨c, c0, e⟩ := L_form h (show NzV (dirL l) from z)
    have dp := M_dot h p (dirL l)
    show decide (dotP (S.ph p) (dirL (S.L l)) - (S.L l).2.2 = 0) = decide (dotP p (dirL l) - l.2.2 = 0)
    have q : dotP (S.ph p) (dirL (S.L l)) - (S.L l).2.2 = c * S.D * (dotP p (dirL l) - l.2.2) := by
      have q2 : dotP (S.ph p) (scV c (S.M (dirL l))) = c * (dotP S.a (S.M (dirL l)) + S.D * dotP p (dirL l)) := by
        rw [← dp]
        simp only [dotP, scV, Sim.ph]
        grind
      rw [e]
      show dotP (S.ph p) (scV c (S.M (dirL l))) - c * (S.D * l.2.2 + dotP S.a (S.M (dirL l))) = _
      rw [q2]
      grind
    rw [q]
    exact dec_iff (mul0 (by grind))
  | ci m q =>
    show decide (dotP (wayB (S.ph m) (S.ph p)) (wayB (S.ph m) (S.ph p)) - dotP (wayB (S.ph m) (S.ph q)) (wayB (S.ph m) (S.ph q)) = 0) = decide (dotP (wayB m p) (wayB m p) - dotP (wayB m q) (wayB m q) = 0)
    rw [M_way, M_way, M_dot h, M_dot h]
    refine dec_iff ⟨fun z => ?_, fun z => ?_⟩ <;> grind
/-- the points that a claim names -/
theorem pts_map {f g : Str → Option Thg} {k : Str → Rat} (hg : ∀ y, g y = (f y).map (S.T (k y))) : ∀ {l : List Str}, (l.filterMap g).filterMap Thg.pt? = ((l.filterMap f).filterMap Thg.pt?).map S.ph
  | [] => rfl
  | y :: l => by
    have ih := pts_map hg (l := l)
    have e := hg y
    cases q : f y with
    | none =>
      rw [q] at e
      rw [List.filterMap_cons_none e, List.filterMap_cons_none q, ih]
    | some t =>
      rw [q] at e
      rw [List.filterMap_cons_some e, List.filterMap_cons_some q]
      cases t with
      | pt p =>
        rw [List.filterMap_cons_some (show Thg.pt? (S.T (k y) (.pt p)) = some (S.ph p) from rfl), List.filterMap_cons_some (show Thg.pt? (.pt p) = some p from rfl), ih]
        rfl
      | ln l b w =>
        rw [List.filterMap_cons_none (show Thg.pt? (S.T (k y) (.ln l b w)) = none from rfl), List.filterMap_cons_none (show Thg.pt? (.ln l b w) = none from rfl), ih]
      | ci m p =>
        rw [List.filterMap_cons_none (show Thg.pt? (S.T (k y) (.ci m p)) = none from rfl), List.filterMap_cons_none (show Thg.pt? (.ci m p) = none from rfl), ih]
theorem told_T (h : S.Ok) {odd : Str → Bool} {E : Ev} (nz : ∀ x t, thg E x = some t → NzT t) (c : Clm) (hc : c.1 = .lies → ∃ x y, c.2 = [x, y] ∧ ∀ t, thg E x = some t → ∃ p, t = .pt p) : told (evS S odd E) c = told E c := by
  have e : ∀ y, thg (evS S odd E) y = (thg E y).map (S.T (sg S odd y)) := fun y => evS_t
  have a1 : (c.2.all fun y => (thg (evS S odd E) y).isSome) = c.2.all fun y => (thg E y).isSome := by
    congr 1
    funext y
    rw [e]
    cases thg E y <;> rfl
  unfold told
  rw [a1]
  by_cases z : (c.2.all fun y => (thg E y).isSome) = true
  · rw [if_pos z, if_pos z]
    congr 1
    obtain ⟨j, ys⟩ := c
    by_cases jl : j = .lies
    · subst jl
      obtain ⟨x, y, e1, e2⟩ := hc rfl
      have e1 : ys = [x, y] := e1
      subst e1
      simp only [List.all_cons, List.all_nil, Bool.and_true, Bool.and_eq_true] at z
      obtain ⟨t, ht⟩ := Option.isSome_iff_exists.mp z.1
      obtain ⟨u, hu⟩ := Option.isSome_iff_exists.mp z.2
      obtain ⟨p, rfl⟩ := e2 t ht
      have ht' := e x
      have hu' := e y
      rw [ht] at ht'
      rw [hu] at hu'
      show sayTs .lies ([x, y].filterMap (thg (evS S odd E))) = sayTs .lies ([x, y].filterMap (thg E))
      rw [List.filterMap_cons_some ht', List.filterMap_cons_some hu', List.filterMap_nil, List.filterMap_cons_some ht, List.filterMap_cons_some hu, List.filterMap_nil]
      show sayAt (S.ph p) (S.T _ u) = sayAt p u
      exact say_at h (nz y u hu) _
    · have q : ∀ ts, sayTs j ts = j.say (ts.filterMap Thg.pt?) := fun ts => by
        cases j <;> first | rfl | exact absurd rfl jl
      show sayTs j (ys.filterMap (thg (evS S odd E))) = sayTs j (ys.filterMap (thg E))
      rw [q, q, pts_map e, say_all h]
  · rw [if_neg z, if_neg z]
end
end Ph
set_option linter.all false
set_option maxRecDepth 100000
set_option maxHeartbeats 4000000
namespace Ph
open PySem PySem.Spec PyProof.Rows L2 LamX
/-! ### what stands in a drawing -/
def Thg.kd : Thg → Kd
  | .pt _ => .pt
  | .ln .. => .ln
  | .ci .. => .ci
theorem mkB_kd {b : Bn} {s t o : Thg} (e : mkB b s t = some o) : o.kd = b.kd := by
  cases b <;> rcases s with p | ⟨l, u, v⟩ | ⟨m, p⟩ <;> rcases t with q | ⟨n, c, d⟩ | ⟨m2, q⟩ <;> first
    | (cases e; rfl)
    | (cases e; done)
    | (simp only [mkB] at e; split at e <;> cases e <;> rfl)
theorem mkS_kd {E : Ev} {s : Stp} {ns : List Rat} {t : Thg} (e : mkS E s ns = some t) : t.kd = s.kd := by
  unfold mkS at e
  split at e
  · cases e; rfl
  · split at e <;> cases e <;> rfl
  · split at e <;> cases e <;> rfl
  · split at e <;> cases e <;> rfl
  · split at e <;> cases e <;> rfl
  · split at e
    · exact mkB_kd e
    · cases e
  · cases e
def valAt (pl : Pl) (ns : List Rat) (j : Nat) (s : Stp) : Option Thg := mkS (stAt pl ns j).1 s ((stAt pl ns j).2.take s.takes)
section
variable {pl : Pl} {ns : List Rat}
theorem name_inj (nd : pl.names.Nodup) {i j : Nat} {x : Str} {s t : Stp} (h1 : pl[i]? = some (x, s)) (h2 : pl[j]? = some (x, t)) : i = j ∧ s = t := by
  have n1 : pl.names[i]? = some x := by unfold Pl.names; rw [List.getElem?_map, h1]; rfl
  have n2 : pl.names[j]? = some x := by unfold Pl.names; rw [List.getElem?_map, h2]; rfl
  obtain ⟨lt, _⟩ := List.getElem?_eq_some_iff.mp n1
  have e : i = j := (List.getElem?_inj lt nd).mp (n1.trans n2.symm)
  subst e
  rw [h1] at h2
  cases h2
  exact ⟨rfl, rfl⟩
theorem eL_at (nd : pl.names.Nodup) : ∀ {i j : Nat} {x : Str} {s : Stp}, i ≤ pl.length → j < i → pl[j]? = some (x, s) → eL (stAt pl ns i).1 x = some (valAt pl ns j s)
  | 0, j, x, s, _, h, _ => by omega
  | i + 1, j, x, s, hi, hj, hp => by
    obtain ⟨y, t, hq⟩ : ∃ x s, pl[i]? = some (x, s) := ⟨_, _, List.getElem?_eq_getElem (by omega)⟩
    rw [stAt_succ hq]
    show (if x = y then some _ else eL (stAt pl ns i).1 x) = _
    by_cases e : x = y
    · subst e
      obtain ⟨rfl, rfl⟩ := name_inj nd hp hq
      rw [if_pos rfl]
      rfl
    · rw [if_neg e]
      have ne : j ≠ i := fun z => by
        subst z
        rw [hp] at hq
        cases hq
        exact e rfl
      exact eL_at nd (by omega) (by omega) hp
theorem eL_is : ∀ {i : Nat} {x : Str} {o : Option Thg}, i ≤ pl.length → eL (stAt pl ns i).1 x = some o → ∃ j s, j < i ∧ pl[j]? = some (x, s) ∧ o = valAt pl ns j s
  | 0, x, o, _, h => by cases h
  | i + 1, x, o, hi, h => by
    obtain ⟨y, t, hq⟩ : ∃ x s, pl[i]? = some (x, s) := ⟨_, _, List.getElem?_eq_getElem (by omega)⟩
    rw [stAt_succ hq] at h
    have h : (if x = y then some _ else eL (stAt pl ns i).1 x) = some o := h
    by_cases e : x = y
    · subst e
      rw [if_pos rfl] at h
      cases h
      exact ⟨i, t, by omega, hq, rfl⟩
    · rw [if_neg e] at h
      obtain ⟨j, s, h1, h2, h3⟩ := eL_is (by omega) h
      exact ⟨j, s, by omega, h2, h3⟩
theorem eL_mono (nd : pl.names.Nodup) {i j : Nat} {x : Str} {o : Option Thg} (hi : i ≤ pl.length) (hj : j ≤ i) (h : eL (stAt pl ns j).1 x = some o) : eL (stAt pl ns i).1 x = some o := by
  obtain ⟨k, s, h1, h2, rfl⟩ := eL_is (by omega) h
  exact eL_at nd hi (by omega) h2
theorem thg_mono (nd : pl.names.Nodup) {i j : Nat} {x : Str} {t : Thg} (hi : i ≤ pl.length) (hj : j ≤ i) (h : thg (stAt pl ns j).1 x = some t) : thg (stAt pl ns i).1 x = some t := by
  have := eL_mono nd hi hj (thg_some h)
  unfold thg
  rw [this]
  rfl
theorem thg_ofE {E : Ev} {x : Str} {o : Option Thg} (h : eL E x = some o) : thg E x = o := by
  unfold thg
  rw [h]
  rfl
/-- a known name is there, of its sort -/
theorem known_at (nd : pl.names.Nodup) {i : Nat} {k : Kd} {y : Str} (hi : i ≤ pl.length) (h : y ∈ knownN (pl.take i) k) : ∃ j s o, j < i ∧ pl[j]? = some (y, s) ∧ s.kd = k ∧ eL (stAt pl ns i).1 y = some o ∧ ∀ t, o = some t → t.kd = k := by
  obtain ⟨s, h1, h2⟩ := mem_known.mp h
  obtain ⟨j, hj⟩ := List.getElem?_of_mem h1
  have lt : j < i := by
    have := (List.getElem?_eq_some_iff.mp hj).1
    rw [List.length_take] at this
    omega
  rw [List.getElem?_take_of_lt lt] at hj
  exact ⟨j, s, _, lt, hj, h2, eL_at nd hi lt hj, fun t e => (mkS_kd e).trans h2⟩
theorem kd_pt {t : Thg} (h : t.kd = .pt) : ∃ p, t = .pt p := by
  cases t with
  | pt p => exact ⟨p, rfl⟩
  | ln l b w => cases h
  | ci m p => cases h
theorem kd_ln {t : Thg} (h : t.kd = .ln) : ∃ l b w, t = .ln l b w := by
  cases t with
  | pt p => cases h
  | ln l b w => exact ⟨l, b, w, rfl⟩
  | ci m p => cases h
theorem kd_ci {t : Thg} (h : t.kd = .ci) : ∃ m p, t = .ci m p := by
  cases t with
  | pt p => cases h
  | ln l b w => cases h
  | ci m p => exact ⟨m, p, rfl⟩
/-- the sorts of what a step names -/
def OfKd (E : Ev) (y : Str) (k : Kd) : Prop := ∃ o, eL E y = some o ∧ ∀ t, o = some t → t.kd = k
theorem OfKd.thg {E : Ev} {y : Str} {k : Kd} (h : OfKd E y k) {t : Thg} (e : thg E y = some t) : t.kd = k := by
  obtain ⟨o, h1, h2⟩ := h
  rw [thg_ofE h1] at e
  exact h2 t e
def SKd (E : Ev) : Stp → Prop
  | .free => True
  | .on l => OfKd E l .ln
  | .round c => OfKd E c .ci
  | .turn p q k => OfKd E p .pt ∧ OfKd E q .pt ∧ 1 ≤ k ∧ k ≤ 3
  | .other l c p => OfKd E l .ln ∧ OfKd E c .ci ∧ OfKd E p .pt
  | .two b x y => OfKd E x b.s1 ∧ OfKd E y b.s2
theorem good_kd (nd : pl.names.Nodup) {i : Nat} {s : Stp} (hi : i ≤ pl.length) (g : Good (pl.take i) s) : SKd (stAt pl ns i).1 s := by
  have k : ∀ {y : Str} {k : Kd}, y ∈ knownN (pl.take i) k → OfKd (stAt pl ns i).1 y k := fun h => let ⟨_, _, o, _, _, _, h1, h2⟩ := known_at nd hi h; ⟨o, h1, h2⟩
  cases s with
  | free => trivial
  | on l => exact k g
  | round c => exact k g
  | turn p q n => exact ⟨k g.1, k g.2.1, g.2.2.1, g.2.2.2⟩
  | other l c p => exact ⟨k g.1, k g.2.1, k g.2.2⟩
  | two b x y => exact ⟨k g.1, k g.2⟩
end
theorem fit_of {E : Ev} {s : Stp} (h : SKd E s) (hs : ∀ y ∈ s.of, (thg E y).isSome = true) : Fit E s := by
  have get : ∀ {y : Str} {k : Kd}, y ∈ s.of → OfKd E y k → ∃ t, thg E y = some t ∧ t.kd = k := fun {y k} m o => by
    obtain ⟨t, ht⟩ := Option.isSome_iff_exists.mp (hs y m)
    exact ⟨t, ht, o.thg ht⟩
  cases s with
  | free => trivial
  | on l =>
    obtain ⟨t, h1, h2⟩ := get (by simp [Stp.of]) h
    obtain ⟨n, b, w, rfl⟩ := kd_ln h2
    exact ⟨n, b, w, h1⟩
  | round l =>
    obtain ⟨t, h1, h2⟩ := get (by simp [Stp.of]) h
    obtain ⟨m, p, rfl⟩ := kd_ci h2
    exact ⟨m, p, h1⟩
  | turn p q k =>
    obtain ⟨t, h1, h2⟩ := get (y := p) (by simp [Stp.of]) h.1
    obtain ⟨u, h3, h4⟩ := get (y := q) (by simp [Stp.of]) h.2.1
    obtain ⟨a, rfl⟩ := kd_pt h2
    obtain ⟨b, rfl⟩ := kd_pt h4
    exact ⟨h.2.2.2, a, b, h1, h3⟩
  | other l c p =>
    obtain ⟨t, h1, h2⟩ := get (y := l) (by simp [Stp.of]) h.1
    obtain ⟨u, h3, h4⟩ := get (y := c) (by simp [Stp.of]) h.2.1
    obtain ⟨v, h5, h6⟩ := get (y := p) (by simp [Stp.of]) h.2.2
    obtain ⟨n, b, w, rfl⟩ := kd_ln h2
    obtain ⟨m, q, rfl⟩ := kd_ci h4
    obtain ⟨a, rfl⟩ := kd_pt h6
    exact ⟨n, b, w, m, q, a, h1, h3, h5⟩
  | two b x y =>
    obtain ⟨t, h1, h2⟩ := get (y := x) (by simp [Stp.of]) h.1
    obtain ⟨u, h3, h4⟩ := get (y := y) (by simp [Stp.of]) h.2
    refine ⟨t, u, h1, h3, ?_⟩
    cases b <;> cases t <;> first | (cases h2; done) | (cases u <;> first | (cases h4; done) | trivial)
theorem non_of {E : Ev} {s : Stp} {ns : List Rat} (h : ∃ y ∈ s.of, thg E y = none) : mkS E s ns = none := by
  obtain ⟨y, hy, e⟩ := h
  cases s with
  | free => cases hy
  | on l =>
    rw [show Stp.of (.on l) = [l] from rfl, List.mem_singleton] at hy
    subst hy
    unfold mkS
    split <;> first | rfl | (rename_i h; cases h; rw [e]) | (rename_i h; cases h)
  | round l =>
    rw [show Stp.of (.round l) = [l] from rfl, List.mem_singleton] at hy
    subst hy
    unfold mkS
    split <;> first | rfl | (rename_i h; cases h; rw [e]) | (rename_i h; cases h)
  | turn p q k =>
    show (match thg E p, thg E q with | some (.pt a), some (.pt b) => some (Thg.pt (turnP a b k)) | _, _ => none) = none
    simp only [Stp.of, List.mem_cons, List.not_mem_nil, or_false] at hy
    rcases hy with rfl | rfl
    · rw [e]
    · rw [e]
      rcases thg E p with _ | _ | _ | _ <;> rfl
  | other l c p =>
    show (match thg E l, thg E c, thg E p with | some (.ln n _ _), some (.ci m _), some (.pt a) => some (Thg.pt (othP n m a)) | _, _, _ => none) = none
    simp only [Stp.of, List.mem_cons, List.not_mem_nil, or_false] at hy
    rcases hy with rfl | rfl | rfl
    · rw [e]
    · rw [e]
      rcases thg E l with _ | _ | _ | _ <;> rfl
    · rw [e]
      rcases thg E l with _ | _ | _ | _ <;> first | rfl | (rcases thg E c with _ | _ | _ | _ <;> rfl)
  | two b p q =>
    show (match thg E p, thg E q with | some s, some t => mkB b s t | _, _ => none) = none
    simp only [Stp.of, List.mem_cons, List.not_mem_nil, or_false] at hy
    rcases hy with rfl | rfl
    · rw [e]
    · rw [e]
      rcases thg E p with _ | _ <;> rfl
/-! ways and lines -/
theorem WayAt.up {pl : Pl} {E : Ev} : ∀ {d : Nat} {x : Str} {w : P2}, WayAt pl E d x w → WayAt pl E (d + 1) x w
  | 0, _, _, h => h.elim
  | d + 1, x, w, h => by
    obtain ⟨i, k, u, v, hi, h⟩ := h
    refine ⟨i, k, u, v, hi, ?_⟩
    rcases h with h | ⟨e, h⟩ | ⟨e, w', h, e2⟩
    · exact .inl h
    · exact .inr (.inl ⟨e, WayAt.up h⟩)
    · exact .inr (.inr ⟨e, w', WayAt.up h, e2⟩)
theorem WayAt.le {pl : Pl} {E : Ev} {d e : Nat} {x : Str} {w : P2} (h : WayAt pl E d x w) (l : d ≤ e) : WayAt pl E e x w := by
  obtain ⟨n, rfl⟩ := Nat.exists_eq_add_of_le l
  clear l
  induction n with
  | zero => exact h
  | succ n ih => exact WayAt.up ih
theorem OddAt.up {pl : Pl} : ∀ {d : Nat} {x : Str} {b : Bool}, OddAt pl d x b → OddAt pl (d + 1) x b
  | 0, _, _, h => h.elim
  | d + 1, x, b, h => by
    obtain ⟨i, k, u, v, hi, h⟩ := h
    refine ⟨i, k, u, v, hi, ?_⟩
    rcases h with h | ⟨e, h⟩ | ⟨e, h⟩
    · exact .inl h
    · exact .inr (.inl ⟨e, OddAt.up h⟩)
    · exact .inr (.inr ⟨e, OddAt.up h⟩)
theorem OddAt.le {pl : Pl} {d e : Nat} {x : Str} {b : Bool} (h : OddAt pl d x b) (l : d ≤ e) : OddAt pl e x b := by
  obtain ⟨n, rfl⟩ := Nat.exists_eq_add_of_le l
  clear l
  induction n with
  | zero => exact h
  | succ n ih => exact OddAt.up ih
/-- which steps make a line -/
theorem mkS_ln {E : Ev} {s : Stp} {ns : List Rat} {l : L3} {b w : P2} (e : mkS E s ns = some (.ln l b w)) : ∃ k x y, s = .two k x y ∧ thg E x = some (.pt b) ∧
    ((k = .line ∧ ∃ q, thg E y = some (.pt q) ∧ b ≠ q ∧ l = throughL b q ∧ w = wayB b q) ∨ (∃ n c v, thg E y = some (.ln n c v) ∧ ((k = .along ∧ l = alongL b n ∧ w = v) ∨ (k = .upright ∧ l = uprightL b n ∧ w = leftP v)))) := by
  have kd := mkS_kd e
  cases s with
  | free => cases kd
  | on l => cases kd
  | round l => cases kd
  | turn p q k => cases kd
  | other l c p => cases kd
  | two k x y =>
    refine ⟨k, x, y, rfl, ?_⟩
    have e : (match thg E x, thg E y with | some s, some t => mkB k s t | _, _ => none) = some (Thg.ln l b w) := e
    cases hx : thg E x with
    | none => rw [hx] at e; cases e
    | some s =>
      cases hy : thg E y with
      | none => rw [hx, hy] at e; cases e
      | some t =>
        rw [hx, hy] at e
        have e : mkB k s t = some (Thg.ln l b w) := e
        cases k with
        | meet => cases kd
        | middle => cases kd
        | foot => cases kd
        | mirror => cases kd
        | circle => cases kd
        | line =>
          cases s with
          | ln _ _ _ => cases t <;> cases e
          | ci _ _ => cases t <;> cases e
          | pt p =>
            cases t with
            | ln _ _ _ => cases e
            | ci _ _ => cases e
            | pt q =>
              have e : (if p = q then none else some (Thg.ln (throughL p q) p (wayB p q))) = some (Thg.ln l b w) := e
              by_cases c0 : p = q
              · rw [if_pos c0] at e
                cases e
              · rw [if_neg c0] at e
                cases e
                exact ⟨rfl, .inl ⟨rfl, q, rfl, c0, rfl, rfl⟩⟩
        | along =>
          cases s with
          | ln _ _ _ => cases t <;> cases e
          | ci _ _ => cases t <;> cases e
          | pt p =>
            cases t with
            | pt _ => cases e
            | ci _ _ => cases e
            | ln n c v =>
              cases e
              exact ⟨rfl, .inr ⟨n, c, w, rfl, .inl ⟨rfl, rfl, rfl⟩⟩⟩
        | upright =>
          cases s with
          | ln _ _ _ => cases t <;> cases e
          | ci _ _ => cases t <;> cases e
          | pt p =>
            cases t with
            | pt _ => cases e
            | ci _ _ => cases e
            | ln n c v =>
              cases e
              exact ⟨rfl, .inr ⟨n, c, v, rfl, .inr ⟨rfl, rfl, rfl⟩⟩⟩
theorem mkS_ci {E : Ev} {s : Stp} {ns : List Rat} {m p : P2} (e : mkS E s ns = some (.ci m p)) : ∃ x y, s = .two .circle x y ∧ thg E x = some (.pt m) ∧ thg E y = some (.pt p) ∧ m ≠ p := by
  have kd := mkS_kd e
  cases s with
  | free => cases kd
  | on l => cases kd
  | round l => cases kd
  | turn p q k => cases kd
  | other l c p => cases kd
  | two k x y =>
    have e : (match thg E x, thg E y with | some s, some t => mkB k s t | _, _ => none) = some (Thg.ci m p) := e
    cases hx : thg E x with
    | none => rw [hx] at e; cases e
    | some s =>
      cases hy : thg E y with
      | none => rw [hx, hy] at e; cases e
      | some t =>
        rw [hx, hy] at e
        have e : mkB k s t = some (Thg.ci m p) := e
        cases k with
        | meet => cases kd
        | middle => cases kd
        | foot => cases kd
        | mirror => cases kd
        | line => cases kd
        | along => cases kd
        | upright => cases kd
        | circle =>
          cases s with
          | ln _ _ _ => cases t <;> cases e
          | ci _ _ => cases t <;> cases e
          | pt a =>
            cases t with
            | ln _ _ _ => cases e
            | ci _ _ => cases e
            | pt q =>
              have e : (if a = q then none else some (Thg.ci a q)) = some (Thg.ci m p) := e
              by_cases c0 : a = q
              · rw [if_pos c0] at e
                cases e
              · rw [if_neg c0] at e
                cases e
                exact ⟨x, y, rfl, hx, hy, c0⟩
end Ph
set_option linter.all false
set_option maxRecDepth 100000
set_option maxHeartbeats 4000000
namespace Ph
open PySem PySem.Spec PyProof.Rows L2 LamX
section
variable {pl : Pl} {ns : List Rat}
theorem way_at (nd : pl.names.Nodup) {i : Nat} (hi : i ≤ pl.length) : ∀ (j : Nat) {x : Str} {s : Stp} {l : L3} {b w : P2}, j < i → pl[j]? = some (x, s) → valAt pl ns j s = some (.ln l b w) → WayAt pl (stAt pl ns i).1 (j + 1) x w := by
  intro j
  induction j using Nat.strongRecOn with
  | ind j ih =>
    intro x s l b w hj hp e
    obtain ⟨k, n1, n2, rfl, h1, h2⟩ := mkS_ln e
    have h1' := thg_mono nd hi (Nat.le_of_lt hj) h1
    rcases h2 with ⟨rfl, q, h2, _, _, rfl⟩ | ⟨n, c, v, h2, h3⟩
    · exact ⟨j, .line, n1, n2, hp, .inl ⟨rfl, b, q, h1', thg_mono nd hi (Nat.le_of_lt hj) h2, rfl⟩⟩
    · obtain ⟨j2, s2, l2, p2, e2⟩ := eL_is (by omega) (thg_some h2)
      have r := (ih j2 l2 (by omega) p2 e2.symm).le l2
      rcases h3 with ⟨rfl, _, rfl⟩ | ⟨rfl, _, rfl⟩
      · exact ⟨j, .along, n1, n2, hp, .inr (.inl ⟨rfl, r⟩)⟩
      · exact ⟨j, .upright, n1, n2, hp, .inr (.inr ⟨rfl, v, r, rfl⟩)⟩
theorem evok_of (nd : pl.names.Nodup) (hl : pl.length ≤ 12) {i : Nat} (hi : i ≤ pl.length) (sm : EvSm (stAt pl ns i).1) : EvOk pl (stAt pl ns i).1 := by
  refine ⟨sm, fun x l b w h => ?_, fun x m p h => ?_⟩
  · have z : NzV (dirL l) := stAt_nz i hi x _ h
    obtain ⟨j, s, hj, hp, e⟩ := eL_is hi (thg_some h)
    obtain ⟨k, n1, n2, rfl, h1, _⟩ := mkS_ln e.symm
    exact ⟨nz_dot z, z, j, k, n1, n2, hp, thg_mono nd hi (Nat.le_of_lt hj) h1, (way_at nd hi j hj hp e.symm).le (show j + 1 ≤ lvD by show j + 1 ≤ 20; omega)⟩
  · obtain ⟨j, s, hj, hp, e⟩ := eL_is hi (thg_some h)
    obtain ⟨n1, n2, rfl, h1, h2, _⟩ := mkS_ci e.symm
    exact ⟨j, n1, n2, hp, thg_mono nd hi (Nat.le_of_lt hj) h1, thg_mono nd hi (Nat.le_of_lt hj) h2⟩
theorem draw_pre : ∀ (i : Nat) {j : Nat} {x : Str} {s : Stp}, i ≤ pl.length → j < i → pl[j]? = some (x, s) → ((stAt pl ns i).1.map (·.2)).reverse[j]? = some (valAt pl ns j s)
  | 0, j, x, s, _, h, _ => by omega
  | i + 1, j, x, s, hi, hj, hp => by
    obtain ⟨y, t, hq⟩ : ∃ x s, pl[i]? = some (x, s) := ⟨_, _, List.getElem?_eq_getElem (by omega)⟩
    have ln : ((stAt pl ns i).1.map (·.2)).reverse.length = i := by
      have := congrArg List.length (stAt_names (pl := pl) (qs := ns) i (by omega))
      simp only [List.length_map, List.length_reverse, List.length_take] at this
      simp only [List.length_map, List.length_reverse]
      omega
    rw [stAt_succ hq, List.map_cons, List.reverse_cons]
    by_cases e : j = i
    · subst e
      rw [hp] at hq
      cases hq
      rw [List.getElem?_append_right (by omega), ln, Nat.sub_self]
      rfl
    · rw [List.getElem?_append_left (by omega)]
      exact draw_pre i (by omega) (by omega) hp
theorem draw_at {j : Nat} {x : Str} {s : Stp} (hp : pl[j]? = some (x, s)) : (draw pl ns)[j]? = some (valAt pl ns j s) := draw_pre pl.length (Nat.le_refl _) (List.getElem?_eq_some_iff.mp hp).1 hp
theorem env_at : ∀ i, i ≤ pl.length → envN pl (draw pl ns) i = (stAt pl ns i).1
  | 0, _ => rfl
  | i + 1, hi => by
    obtain ⟨x, s, hp⟩ : ∃ x s, pl[i]? = some (x, s) := ⟨_, _, List.getElem?_eq_getElem (by omega)⟩
    rw [stAt_succ hp, ← env_at i (by omega)]
    show (match pl[i]?, (draw pl ns)[i]? with | some s, some o => (s.1, o) :: envN pl (draw pl ns) i | _, _ => envN pl (draw pl ns) i) = _
    rw [hp, draw_at hp, valAt, env_at i (by omega)]
theorem mem_draw {o : Option Thg} (h : o ∈ draw pl ns) : ∃ j x s, pl[j]? = some (x, s) ∧ o = valAt pl ns j s := by
  obtain ⟨j, hj⟩ := List.getElem?_of_mem h
  have lt := (List.getElem?_eq_some_iff.mp hj).1
  rw [draw_len] at lt
  obtain ⟨x, s, hp⟩ : ∃ x s, pl[j]? = some (x, s) := ⟨_, _, List.getElem?_eq_getElem lt⟩
  rw [draw_at hp] at hj
  exact ⟨j, x, s, hp, (Option.some.inj hj).symm⟩
end
/-- a good plan's drawing goes, where its sizes do -/
theorem drn_of {pl : Pl} {qs : List Rat} (g : GenOk pl) (hl : pl.length ≤ 12) (hq : qs.length = allN pl) (h64 : ∀ q ∈ qs, Sm 64 q) (sm : ∀ i, i ≤ pl.length → EvSm (stAt pl qs i).1) (hlim : ∀ j x s, pl[j]? = some (x, s) → ∀ q ∈ thQ (valAt pl qs j s), LimQ q) : Drn pl qs := by
  have al := all_le pl
  have sk : ∀ {i : Nat} {x : Str} {s : Stp}, pl[i]? = some (x, s) → SKd (stAt pl qs i).1 s := fun {i x s} h => good_kd g.nd (Nat.le_of_lt (List.getElem?_eq_some_iff.mp h).1) (g.good i x s h).1
  refine ⟨⟨by omega, g.nd, h64, by omega, fun i x s h y hy => ?_, fun i x s h hs => fit_of (sk h) hs, fun i x s h hn => non_of hn, fun i x s h => ?_, fun i hi => evok_of g.nd hl (Nat.le_of_lt hi) (sm i (Nat.le_of_lt hi))⟩, draw_len, ?_, fun o ho => ?_⟩
  · have lt := (List.getElem?_eq_some_iff.mp h).1
    have gd := (g.good i x s h).1
    have k : ∀ {k : Kd}, y ∈ knownN (pl.take i) k → ∃ o, eL (stAt pl qs i).1 y = some o := fun h => let ⟨_, _, o, _, _, _, h1, _⟩ := known_at g.nd (Nat.le_of_lt lt) h; ⟨o, h1⟩
    cases s with
    | free => cases hy
    | on l =>
      rw [show Stp.of (.on l) = [l] from rfl, List.mem_singleton] at hy
      subst hy
      exact k gd
    | round l =>
      rw [show Stp.of (.round l) = [l] from rfl, List.mem_singleton] at hy
      subst hy
      exact k gd
    | turn p q n =>
      simp only [Stp.of, List.mem_cons, List.not_mem_nil, or_false] at hy
      rcases hy with rfl | rfl
      · exact k gd.1
      · exact k gd.2.1
    | other l c p =>
      simp only [Stp.of, List.mem_cons, List.not_mem_nil, or_false] at hy
      rcases hy with rfl | rfl | rfl
      · exact k gd.1
      · exact k gd.2.1
      · exact k gd.2.2
    | two b p q =>
      simp only [Stp.of, List.mem_cons, List.not_mem_nil, or_false] at hy
      rcases hy with rfl | rfl
      · exact k gd.1
      · exact k gd.2
  · have lt := (List.getElem?_eq_some_iff.mp h).1
    rw [stAt_len2 hq i (Nat.le_of_lt lt), allN_drop h]
    omega
  · rw [env_at _ (Nat.le_refl _)]
    exact sm _ (Nat.le_refl _)
  · obtain ⟨j, x, s, hp, rfl⟩ := mem_draw ho
    exact hlim j x s hp
/-! ### which ways are odd -/
def oddL : List (Str × Bool) → Str → Bool
  | [], _ => false
  | (x, b) :: r, y => if y = x then b else oddL r y
def oddV (O : List (Str × Bool)) : Stp → Bool
  | .two .along _ l => oddL O l
  | .two .upright _ l => !oddL O l
  | _ => false
def oddsA (pl : Pl) : Nat → List (Str × Bool)
  | 0 => []
  | i + 1 => match pl[i]? with
    | some (x, s) => (x, oddV (oddsA pl i) s) :: oddsA pl i
    | none => oddsA pl i
def oddOf (pl : Pl) : Str → Bool := oddL (oddsA pl pl.length)
section
variable {pl : Pl}
theorem odd_at (nd : pl.names.Nodup) : ∀ {i j : Nat} {x : Str} {s : Stp}, i ≤ pl.length → j < i → pl[j]? = some (x, s) → oddL (oddsA pl i) x = oddV (oddsA pl j) s
  | 0, j, x, s, _, h, _ => by omega
  | i + 1, j, x, s, hi, hj, hp => by
    obtain ⟨y, t, hq⟩ : ∃ x s, pl[i]? = some (x, s) := ⟨_, _, List.getElem?_eq_getElem (by omega)⟩
    have e1 : oddsA pl (i + 1) = (y, oddV (oddsA pl i) t) :: oddsA pl i := by
      show (match pl[i]? with | some (x, s) => (x, oddV (oddsA pl i) s) :: oddsA pl i | none => oddsA pl i) = _
      rw [hq]
    rw [e1]
    show (if x = y then _ else oddL (oddsA pl i) x) = _
    by_cases e : x = y
    · subst e
      obtain ⟨rfl, rfl⟩ := name_inj nd hp hq
      rw [if_pos rfl]
    · rw [if_neg e]
      have ne : j ≠ i := fun z => by
        subst z
        rw [hp] at hq
        cases hq
        exact e rfl
      exact odd_at nd (by omega) (by omega) hp
theorem known_ix {i : Nat} {k : Kd} {y : Str} (h : y ∈ knownN (pl.take i) k) : ∃ j s, j < i ∧ pl[j]? = some (y, s) ∧ s.kd = k := by
  obtain ⟨s, h1, h2⟩ := mem_known.mp h
  obtain ⟨j, hj⟩ := List.getElem?_of_mem h1
  have lt : j < i := by
    have := (List.getElem?_eq_some_iff.mp hj).1
    rw [List.length_take] at this
    omega
  rw [List.getElem?_take_of_lt lt] at hj
  exact ⟨j, s, lt, hj, h2⟩
theorem odd_before (g : GenOk pl) {j : Nat} {x l : Str} {s : Stp} {k : Kd} (hp : pl[j]? = some (x, s)) (h : l ∈ knownN (pl.take j) k) : oddL (oddsA pl j) l = oddOf pl l := by
  have lt := (List.getElem?_eq_some_iff.mp hp).1
  obtain ⟨j2, s2, h1, h2, _⟩ := known_ix h
  unfold oddOf
  rw [odd_at g.nd (Nat.le_of_lt lt) h1 h2, odd_at g.nd (Nat.le_refl _) (by omega) h2]
theorem odds_of (g : GenOk pl) : OddS pl (oddOf pl) := by
  refine ⟨fun x p q h => ?_, fun x p l h => ?_, fun x p l h => ?_⟩ <;> obtain ⟨j, hj⟩ := List.getElem?_of_mem h <;> have lt := (List.getElem?_eq_some_iff.mp hj).1 <;> have e := odd_at g.nd (Nat.le_refl _) lt hj
  · exact e
  · exact e.trans (odd_before g hj (g.good j _ _ hj).1.2)
  · exact e.trans (congrArg (!·) (odd_before g hj (g.good j _ _ hj).1.2))
theorem oddat_of (g : GenOk pl) : ∀ (j : Nat) {x : Str} {s : Stp}, pl[j]? = some (x, s) → s.kd = .ln → OddAt pl (j + 1) x (oddOf pl x) := by
  intro j
  induction j using Nat.strongRecOn with
  | ind j ih =>
    intro x s hp hk
    have os := odds_of g
    have mem := List.mem_of_getElem? hp
    cases s with
    | free => cases hk
    | on l => cases hk
    | round l => cases hk
    | turn p q k => cases hk
    | other l c p => cases hk
    | two k u v =>
      have gd := (g.good j _ _ hp).1
      cases k with
      | meet => cases hk
      | middle => cases hk
      | foot => cases hk
      | mirror => cases hk
      | circle => cases hk
      | line => exact ⟨j, .line, u, v, hp, .inl ⟨rfl, os.line x u v mem⟩⟩
      | along =>
        obtain ⟨j2, s2, h1, h2, h3⟩ := known_ix (show v ∈ knownN (pl.take j) .ln from gd.2)
        refine ⟨j, .along, u, v, hp, .inr (.inl ⟨rfl, ?_⟩)⟩
        rw [os.along x u v mem]
        exact (ih j2 h1 h2 h3).le h1
      | upright =>
        obtain ⟨j2, s2, h1, h2, h3⟩ := known_ix (show v ∈ knownN (pl.take j) .ln from gd.2)
        refine ⟨j, .upright, u, v, hp, .inr (.inr ⟨rfl, ?_⟩)⟩
        rw [os.upright x u v mem, Bool.not_not]
        exact (ih j2 h1 h2 h3).le h1
theorem odd_mir : ∀ {d : Nat} {x : Str} {b : Bool}, OddAt pl d x b → OddAt (mirPl pl) d x b
  | 0, _, _, h => h.elim
  | d + 1, x, b, h => by
    obtain ⟨i, k, u, v, hi, h⟩ := h
    refine ⟨i, k, u, v, by unfold mirPl; rw [List.getElem?_map, hi]; rfl, ?_⟩
    rcases h with h | ⟨e, h⟩ | ⟨e, h⟩
    · exact .inl h
    · exact .inr (.inl ⟨e, odd_mir h⟩)
    · exact .inr (.inr ⟨e, odd_mir h⟩)
theorem on_mir {x l : Str} (h : (x, Stp.on l) ∈ mirPl pl) : (x, Stp.on l) ∈ pl := by
  obtain ⟨⟨y, s⟩, h1, e⟩ := List.mem_map.mp h
  have e1 : y = x := congrArg Prod.fst e
  have e2 : mirS s = .on l := congrArg Prod.snd e
  subst e1
  cases s with
  | on l2 => cases e2; exact h1
  | free => cases e2
  | round l => cases e2
  | turn p q k => cases e2
  | other l c p => cases e2
  | two b u v => cases e2
end
/-! ### the mirrored plan -/
abbrev S0 : Sim := ⟨(0, 0), (1, 0), -1⟩
theorem s0_ok : S0.Ok := ⟨by decide +kernel, by decide +kernel⟩
theorem s0_M (w : P2) : S0.M w = (w.1, -w.2) := by
  refine P2.ext ?_ ?_ <;> simp only [Sim.M] <;> grind
theorem s0_ph (w : P2) : S0.ph w = (w.1, -w.2) := by
  refine P2.ext ?_ ?_ <;> simp only [Sim.ph, s0_M] <;> grind
theorem led_ns (odd : Str → Bool) : ∀ (pl : Pl) (qs : List Rat), ledN odd pl qs = nsS S0 odd pl qs
  | [], _ => rfl
  | (x, s) :: r, qs => by
    have neg : ∀ a : Rat, -a = -1 * a := fun a => by grind
    cases s with
    | free =>
      match qs with
      | [] => show ledN odd r [] = nsS S0 odd r []; exact led_ns odd r []
      | [a] => show ledN odd r [a] = nsS S0 odd r [a]; exact led_ns odd r [a]
      | a :: b :: q =>
        show a :: -b :: ledN odd r q = (S0.ph (a, b)).1 :: (S0.ph (a, b)).2 :: nsS S0 odd r q
        rw [led_ns odd r q, s0_ph]
    | round c =>
      match qs with
      | [] => show ledN odd r [] = nsS S0 odd r []; exact led_ns odd r []
      | a :: q =>
        show -a :: ledN odd r q = -1 * a :: nsS S0 odd r q
        rw [led_ns odd r q, neg]
    | on l =>
      match qs with
      | [] => show ledN odd r [] = nsS S0 odd r []; exact led_ns odd r []
      | a :: q =>
        show (if odd l = true then -a else a) :: ledN odd r q = sg S0 odd l * a :: nsS S0 odd r q
        rw [led_ns odd r q]
        unfold sg
        split
        · rw [neg]
        · rw [Rat.one_mul]
    | turn p q k => exact led_ns odd r qs
    | other l c p => exact led_ns odd r qs
    | two b u v => exact led_ns odd r qs
theorem mir_plS (pl : Pl) : mirPl pl = plS true pl := rfl
theorem mir_takes (s : Stp) : (mirS s).takes = s.takes := by cases s <;> rfl
theorem mir_allN : ∀ pl : Pl, allN (mirPl pl) = allN pl
  | [] => rfl
  | (x, s) :: r => by
    have ih := mir_allN r
    show allN ((x, mirS s) :: mirPl r) = _
    rw [allN_cons, allN_cons, ih, mir_takes]
theorem led_len (odd : Str → Bool) : ∀ (pl : Pl) (qs : List Rat), qs.length = allN pl → (ledN odd pl qs).length = allN pl
  | [], qs, h => rfl
  | (x, s) :: r, qs, h => by
    rw [allN_cons] at h ⊢
    cases s with
    | free =>
      match qs, h with
      | [], h => simp [Stp.takes] at h; omega
      | [a], h => simp [Stp.takes] at h; omega
      | a :: b :: q, h =>
        have h2 : q.length = allN r := by simp [Stp.takes] at h; omega
        show (a :: -b :: ledN odd r q).length = _
        simp only [List.length_cons, led_len odd r q h2, Stp.takes]
        omega
    | round c =>
      match qs, h with
      | [], h => simp [Stp.takes] at h; omega
      | a :: q, h =>
        have h2 : q.length = allN r := by simp [Stp.takes] at h; omega
        show (-a :: ledN odd r q).length = _
        simp only [List.length_cons, led_len odd r q h2, Stp.takes]
        omega
    | on l =>
      match qs, h with
      | [], h => simp [Stp.takes] at h; omega
      | a :: q, h =>
        have h2 : q.length = allN r := by simp [Stp.takes] at h; omega
        show ((if odd l = true then -a else a) :: ledN odd r q).length = _
        simp only [List.length_cons, led_len odd r q h2, Stp.takes]
        omega
    | turn p q k => simp [Stp.takes] at h ⊢; exact led_len odd r qs h
    | other l c p => simp [Stp.takes] at h ⊢; exact led_len odd r qs h
    | two b u v => simp [Stp.takes] at h ⊢; exact led_len odd r qs h
theorem led_back (odd : Str → Bool) : ∀ (pl : Pl) (qs : List Rat), qs.length = allN pl → ledN odd (mirPl pl) (ledN odd pl qs) = qs
  | [], qs, h => (List.length_eq_zero_iff.mp h).symm
  | (x, s) :: r, qs, h => by
    rw [allN_cons] at h
    have nn : ∀ a : Rat, - -a = a := fun a => by grind
    cases s with
    | free =>
      match qs, h with
      | [], h => simp [Stp.takes] at h; omega
      | [a], h => simp [Stp.takes] at h; omega
      | a :: b :: q, h =>
        have h2 : q.length = allN r := by simp [Stp.takes] at h; omega
        show a :: - -b :: ledN odd (mirPl r) (ledN odd r q) = _
        rw [led_back odd r q h2, nn]
    | round c =>
      match qs, h with
      | [], h => simp [Stp.takes] at h; omega
      | a :: q, h =>
        have h2 : q.length = allN r := by simp [Stp.takes] at h; omega
        show - -a :: ledN odd (mirPl r) (ledN odd r q) = _
        rw [led_back odd r q h2, nn]
    | on l =>
      match qs, h with
      | [], h => simp [Stp.takes] at h; omega
      | a :: q, h =>
        have h2 : q.length = allN r := by simp [Stp.takes] at h; omega
        show (if odd l = true then -(if odd l = true then -a else a) else (if odd l = true then -a else a)) :: ledN odd (mirPl r) (ledN odd r q) = _
        rw [led_back odd r q h2]
        split
        · rw [nn]
        · rfl
    | turn p q k =>
      simp [Stp.takes] at h
      show ledN odd ((x, mirS (.turn p q k)) :: mirPl r) (ledN odd r qs) = qs
      exact led_back odd r qs h
    | other l c p => simp [Stp.takes] at h; exact led_back odd r qs h
    | two b u v => simp [Stp.takes] at h; exact led_back odd r qs h
theorem led_mem {odd : Str → Bool} {A : Rat → Prop} (neg : ∀ q, A q → A (-q)) : ∀ (pl : Pl) (qs : List Rat), (∀ q ∈ qs, A q) → ∀ q ∈ ledN odd pl qs, A q
  | [], qs, h, q, m => by cases m
  | (x, s) :: r, qs, h, q, m => by
    have go : ∀ (ks : List Rat), (∀ q ∈ ks, A q) → q ∈ ledN odd r ks → A q := fun ks hk mk => led_mem neg r ks hk q mk
    cases s with
    | free =>
      match qs, h, m with
      | [], h, m => exact go [] h m
      | [a], h, m => exact go [a] h m
      | a :: b :: k, h, m =>
        have m : q ∈ a :: -b :: ledN odd r k := m
        rcases List.mem_cons.mp m with rfl | m
        · exact h q (by simp)
        · rcases List.mem_cons.mp m with rfl | m
          · exact neg b (h b (by simp))
          · exact go k (fun y hy => h y (by simp [hy])) m
    | round c =>
      match qs, h, m with
      | [], h, m => exact go [] h m
      | a :: k, h, m =>
        have m : q ∈ -a :: ledN odd r k := m
        rcases List.mem_cons.mp m with rfl | m
        · exact neg a (h a (by simp))
        · exact go k (fun y hy => h y (by simp [hy])) m
    | on l =>
      match qs, h, m with
      | [], h, m => exact go [] h m
      | a :: k, h, m =>
        have m : q ∈ (if odd l = true then -a else a) :: ledN odd r k := m
        rcases List.mem_cons.mp m with rfl | m
        · split
          · exact neg a (h a (by simp))
          · exact h a (by simp)
        · exact go k (fun y hy => h y (by simp [hy])) m
    | turn p u k => exact go qs h m
    | other l c p => exact go qs h m
    | two b u v => exact go qs h m
end Ph
set_option linter.all false
set_option maxRecDepth 100000
set_option maxHeartbeats 4000000
namespace Ph
open PySem PySem.Spec PyProof.Rows L2 LamX
theorem mir_kd (s : Stp) : (mirS s).kd = s.kd := by cases s <;> rfl
theorem mir_known (pl : Pl) (k : Kd) : knownN (mirPl pl) k = knownN pl k := by
  unfold knownN mirPl
  rw [List.filter_map, List.map_map]
  congr 1
  congr 1
  funext s
  show decide ((mirS s.2).kd = k) = decide (s.2.kd = k)
  rw [mir_kd]
theorem mir_take (pl : Pl) (i : Nat) : (mirPl pl).take i = mirPl (pl.take i) := by
  unfold mirPl
  rw [List.map_take]
theorem mir_weigh (W : Wts) (s : Stp) : weigh W (mirS s) = weigh W s ∧ wayW W (mirS s) = wayW W s := by
  cases s <;> exact ⟨rfl, rfl⟩
theorem mir_wts (pl : Pl) : wts (mirPl pl) = wts pl := by
  unfold wts mirPl
  generalize ([] : Wts) = W
  induction pl generalizing W with
  | nil => rfl
  | cons s r ih =>
    show List.foldl addW (addW W (s.1, mirS s.2)) (r.map _) = List.foldl addW (addW W s) r
    have e : addW W (s.1, mirS s.2) = addW W s := by
      unfold addW
      rw [(mir_weigh W s.2).1, (mir_weigh W s.2).2]
    rw [e]
    exact ih _
theorem mir_good {pl : Pl} {s : Stp} (g : Good pl s) : Good (mirPl pl) (mirS s) := by
  cases s with
  | free => trivial
  | on l => show l ∈ knownN (mirPl pl) .ln; rw [mir_known]; exact g
  | round l => show l ∈ knownN (mirPl pl) .ci; rw [mir_known]; exact g
  | turn p q k =>
    show p ∈ knownN (mirPl pl) .pt ∧ q ∈ knownN (mirPl pl) .pt ∧ 1 ≤ 4 - k ∧ 4 - k ≤ 3
    rw [mir_known]
    have h1 := g.2.2.1
    have h2 := g.2.2.2
    exact ⟨g.1, g.2.1, by omega, by omega⟩
  | other l c p =>
    show l ∈ knownN (mirPl pl) .ln ∧ c ∈ knownN (mirPl pl) .ci ∧ p ∈ knownN (mirPl pl) .pt
    rw [mir_known, mir_known, mir_known]
    exact g
  | two b x y =>
    show x ∈ knownN (mirPl pl) b.s1 ∧ y ∈ knownN (mirPl pl) b.s2
    rw [mir_known, mir_known]
    exact g
theorem mir_at {pl : Pl} {i : Nat} {x : Str} {s : Stp} (h : (mirPl pl)[i]? = some (x, s)) : ∃ t, pl[i]? = some (x, t) ∧ s = mirS t := by
  unfold mirPl at h
  rw [List.getElem?_map] at h
  cases q : pl[i]? with
  | none =>
    rw [q] at h
    cases h
  | some t =>
    rw [q] at h
    cases h
    exact ⟨t.2, rfl, rfl⟩
theorem mir_gen {pl : Pl} (g : GenOk pl) : GenOk (mirPl pl) := by
  refine ⟨by rw [mir_names]; exact g.nd, by rw [mir_names]; exact g.so, fun i x s h => ?_, fun i x s hi h => ?_⟩
  · obtain ⟨t, h1, rfl⟩ := mir_at h
    obtain ⟨g1, g2⟩ := g.good i x t h1
    rw [mir_take, mir_wts, (mir_weigh _ t).1]
    exact ⟨mir_good g1, g2⟩
  · obtain ⟨t, h1, rfl⟩ := mir_at h
    have := g.free2 i x t hi h1
    subst this
    rfl
/-! the lines of a drawing are in their normal form -/
def NormL (l : L3) : Prop := l.1 = 1 ∨ (l.1 = 0 ∧ l.2.1 = 1)
theorem norm_by {p w : P2} (z : NzV w) : NormL (lineBy p w) := by
  unfold lineBy scaleL
  by_cases h : w.1 = 0
  · have h2 : w.2 ≠ 0 := z.resolve_left fun y => y h
    rw [if_neg (fun y => y h)]
    exact .inr ⟨by dsimp only; rw [h]; grind, by dsimp only; grind⟩
  · rw [if_pos h]
    exact .inl (by dsimp only; grind)
theorem way_nz {p q : P2} (c0 : p ≠ q) : NzV (wayB p q) := by
  by_cases y : NzV (wayB p q)
  · exact y
  · exfalso
    refine c0 (P2.ext ?_ ?_)
    · by_cases x : q.1 - p.1 = 0
      · grind
      · exact absurd (Or.inl x) y
    · by_cases x : q.2 - p.2 = 0
      · grind
      · exact absurd (Or.inr x) y
theorem val_norm {pl : Pl} {ns : List Rat} {j : Nat} {s : Stp} (hj : j ≤ pl.length) {l : L3} {b w : P2} (e : valAt pl ns j s = some (.ln l b w)) : NormL l := by
  obtain ⟨k, n1, n2, rfl, _, h2⟩ := mkS_ln e
  rcases h2 with ⟨_, q, _, ne, rfl, _⟩ | ⟨n, c, v, h2, ⟨_, rfl, _⟩ | ⟨_, rfl, _⟩⟩
  · exact norm_by (nz_left (way_nz ne))
  · exact norm_by (show NzV (dirL n) from stAt_nz j hj _ _ h2)
  · exact norm_by (nz_left (show NzV (dirL n) from stAt_nz j hj _ _ h2))
theorem led_th {o : Option Thg} (h : ∀ l b w, o = some (.ln l b w) → NormL l) (k : Rat) : thD (o.map (S0.T k)) = ledD o := by
  match o, h with
  | none, _ => rfl
  | some (.pt p), _ =>
    show PyData.tuple [qD (S0.ph p).1, qD (S0.ph p).2] = .tuple [qD p.1, qD (-p.2)]
    rw [s0_ph]
  | some (.ci m p), _ =>
    show PyData.tuple [.tuple [qD (S0.ph m).1, qD (S0.ph m).2], qD (circC (S0.ph m) (S0.ph p)).2] = .tuple [.tuple [qD m.1, qD (-m.2)], qD (circC m p).2]
    have e : (circC (S0.ph m) (S0.ph p)).2 = (circC m p).2 := by
      show dotP (wayB (S0.ph m) (S0.ph p)) (wayB (S0.ph m) (S0.ph p)) = dotP (wayB m p) (wayB m p)
      rw [M_way, M_dot s0_ok]
      have : S0.D = 1 := by decide +kernel
      rw [this, Rat.one_mul]
    rw [e, s0_ph]
  | some (.ln l b w), h =>
    have n := h l b w rfl
    have eL : S0.L l = if l.1 ≠ 0 then (l.1 / l.1, -l.2.1 / l.1, l.2.2 / l.1) else (l.1 / -l.2.1, -l.2.1 / -l.2.1, l.2.2 / -l.2.1) := by
      unfold Sim.L
      rw [s0_M]
      have d1 : S0.D = 1 := by decide +kernel
      have d2 : dotP S0.a ((dirL l).1, -(dirL l).2) = 0 := by simp only [dotP]; grind
      rw [d1, d2, Rat.one_mul, Rat.add_zero]
      rfl
    show PyData.tuple [qD (S0.L l).1, qD (S0.L l).2.1, qD (S0.L l).2.2] = if l.1.num ≠ 0 then PyData.tuple [qD l.1, qD (-l.2.1), qD l.2.2] else .tuple [qD l.1, qD l.2.1, qD (-l.2.2)]
    rcases n with n | ⟨n1, n2⟩
    · have h1 : l.1 ≠ 0 := by rw [n]; decide +kernel
      have h2 : l.1.num ≠ 0 := by rw [n]; decide +kernel
      rw [eL, if_pos h1, if_pos h2, n]
      have d1 : ∀ x : Rat, x / 1 = x := fun x => by grind
      dsimp only
      rw [d1, d1, d1]
    · have h2 : ¬ l.1.num ≠ 0 := by rw [n1]; decide +kernel
      rw [eL, if_neg (fun y => y n1), if_neg h2, n1, n2]
      have d1 : (0 : Rat) / -1 = 0 := by decide +kernel
      have d2 : (-1 : Rat) / -1 = 1 := by decide +kernel
      have d3 : l.2.2 / (-1 : Rat) = -l.2.2 := by grind
      dsimp only
      rw [d1, d2, d3]
/-! claims -/
theorem clok_of {pl : Pl} {qs : List Rat} (g : GenOk pl) {c : Clm} (hc : ClN pl c) : ClOk (stAt pl qs pl.length).1 c := by
  have kn : ∀ {k : Kd} {y : Str}, y ∈ knownN pl k → OfKd (stAt pl qs pl.length).1 y k := fun {k y} h => by
    obtain ⟨_, _, o, _, _, _, h1, h2⟩ := known_at (ns := qs) g.nd (Nat.le_refl _) (show y ∈ knownN (pl.take pl.length) k by rw [List.take_length]; exact h)
    exact ⟨o, h1, h2⟩
  obtain ⟨j, ys⟩ := c
  rcases hc with ⟨h1, h2, h3⟩ | ⟨h1, x, y, h2, h3, h4⟩
  · have h2 : ys.length = j.many := h2
    have m6 : j.many ≤ 6 := by cases j <;> decide
    refine ⟨by show ys.length ≤ 6; omega, fun y hy => let ⟨o, e, _⟩ := kn (h3 y hy); ⟨o, e⟩, fun ha => ?_⟩
    have : ∀ l : List Str, (∀ y ∈ l, y ∈ knownN pl .pt) → (∀ y ∈ l, (thg (stAt pl qs pl.length).1 y).isSome = true) → ∃ ps : List P2, l.filterMap (thg (stAt pl qs pl.length).1) = ps.map Thg.pt ∧ ps.length = l.length := by
      intro l
      induction l with
      | nil => intro _ _; exact ⟨[], rfl, rfl⟩
      | cons y r ih =>
        intro k1 k2
        obtain ⟨ps, e1, e2⟩ := ih (fun z hz => k1 z (by simp [hz])) (fun z hz => k2 z (by simp [hz]))
        obtain ⟨t, ht⟩ := Option.isSome_iff_exists.mp (k2 y (by simp))
        obtain ⟨p, rfl⟩ := kd_pt ((kn (k1 y (by simp))).thg ht)
        exact ⟨p :: ps, by rw [List.filterMap_cons_some ht, e1]; rfl, by simp [e2]⟩
    obtain ⟨ps, e1, e2⟩ := this ys h3 ha
    have q : FitJ j (ys.filterMap (thg (stAt pl qs pl.length).1)) = ∃ ps : List P2, ys.filterMap (thg (stAt pl qs pl.length).1) = ps.map Thg.pt ∧ ps.length = j.many := by
      cases j <;> first | rfl | exact absurd rfl h1
    show FitJ j (ys.filterMap (thg (stAt pl qs pl.length).1))
    rw [q]
    exact ⟨ps, e1, e2.trans h2⟩
  · have h1 : j = .lies := h1
    have h2 : ys = [x, y] := h2
    subst h1
    subst h2
    have ky : ∃ k, k ≠ Kd.pt ∧ y ∈ knownN pl k := h4.elim (fun h => ⟨.ln, by decide, h⟩) fun h => ⟨.ci, by decide, h⟩
    obtain ⟨k, k0, hk⟩ := ky
    refine ⟨by show 2 ≤ 6; decide, fun z hz => ?_, fun ha => ?_⟩
    · have hz : z ∈ [x, y] := hz
      simp only [List.mem_cons, List.not_mem_nil, or_false] at hz
      rcases hz with rfl | rfl
      · exact let ⟨o, e, _⟩ := kn h3; ⟨o, e⟩
      · exact let ⟨o, e, _⟩ := kn hk; ⟨o, e⟩
    · obtain ⟨t, ht⟩ := Option.isSome_iff_exists.mp (ha x (by simp))
      obtain ⟨u, hu⟩ := Option.isSome_iff_exists.mp (ha y (by simp))
      obtain ⟨p, rfl⟩ := kd_pt ((kn h3).thg ht)
      have ku := (kn hk).thg hu
      show FitJ .lies ([x, y].filterMap (thg (stAt pl qs pl.length).1))
      rw [List.filterMap_cons_some ht, List.filterMap_cons_some hu, List.filterMap_nil]
      exact ⟨p, u, rfl, fun q e => by subst e; exact k0 ku.symm⟩
theorem numb_neg {q : Rat} (h : NumB q) : NumB (-q) := by
  obtain ⟨t, b, rfl, h1, h2, h3⟩ := h
  exact ⟨-t, b, by rw [Rat.neg_divInt], by omega, h2, h3⟩
abbrev DrnAll : Prop := ∀ (pl : Pl) (qs : List Rat), GenOk pl → 6 ≤ pl.length → pl.length ≤ 12 → qs.length = allN pl → (∀ q ∈ qs, NumB q) → Drn pl qs
theorem facts_of (all : DrnAll) : FactsAll := fun pl qs g l6 l12 hq hb => by
  have lm : (mirPl pl).length = pl.length := by simp [mirPl]
  have os := odds_of g
  have hk : ∀ x p q k, (x, Stp.turn p q k) ∈ pl → 1 ≤ k ∧ k ≤ 3 := fun x p q k h => by
    obtain ⟨i, hi⟩ := List.getElem?_of_mem h
    exact (g.good i x _ hi).1.2.2
  have hr : S0.e = if (true : Bool) = true then -1 else 1 := rfl
  have d1 := all pl qs g l6 l12 hq hb
  have d2 := all (mirPl pl) (ledN (oddOf pl) pl qs) (mir_gen g) (by omega) (by omega) (by rw [led_len _ _ _ hq, mir_allN]) (led_mem (A := NumB) (fun q h => numb_neg h) pl qs hb)
  have ev : (stAt (mirPl pl) (ledN (oddOf pl) pl qs) pl.length).1 = evS S0 (oddOf pl) (stAt pl qs pl.length).1 := by
    rw [led_ns, mir_plS, stAt_T s0_ok hr os hk hq pl.length (Nat.le_refl _)]
  have dr : draw (mirPl pl) (ledN (oddOf pl) pl qs) = ((evS S0 (oddOf pl) (stAt pl qs pl.length).1).map (·.2)).reverse := by
    rw [led_ns, mir_plS]
    exact draw_T s0_ok hr os hk hq
  have norm : ∀ x o l b w, (x, o) ∈ (stAt pl qs pl.length).1 → o = some (.ln l b w) → NormL l := fun x o l b w hm e => by
    have ho : o ∈ draw pl qs := by
      unfold draw
      rw [List.mem_reverse]
      exact List.mem_map.mpr ⟨_, hm, rfl⟩
    obtain ⟨j, y, s, hp, rfl⟩ := mem_draw ho
    exact val_norm (Nat.le_of_lt (List.getElem?_eq_some_iff.mp hp).1) e
  have led : (draw (mirPl pl) (ledN (oddOf pl) pl qs)).map thD = (draw pl qs).map ledD := by
    rw [dr]
    unfold draw evS
    rw [List.map_reverse, List.map_reverse, List.map_map, List.map_map, List.map_map]
    congr 1
    refine List.map_congr_left fun s hs => ?_
    exact led_th (fun l b w e => norm s.1 s.2 l b w hs e) _
  refine ⟨oddOf pl, d1, d2, fun x l h => ?_, fun x l h => ?_, led, fun o ho => ?_, fun c hc => ?_, by rw [led_len _ _ _ hq, mir_allN], led_back _ _ _ hq⟩
  · obtain ⟨i, hi⟩ := List.getElem?_of_mem h
    obtain ⟨j, s, h1, h2, h3⟩ := known_ix (show l ∈ knownN (pl.take i) .ln from (g.good i x _ hi).1)
    have lt := (List.getElem?_eq_some_iff.mp hi).1
    exact (oddat_of g j h2 h3).le (by omega)
  · have h := on_mir h
    obtain ⟨i, hi⟩ := List.getElem?_of_mem h
    obtain ⟨j, s, h1, h2, h3⟩ := known_ix (show l ∈ knownN (pl.take i) .ln from (g.good i x _ hi).1)
    have lt := (List.getElem?_eq_some_iff.mp hi).1
    exact odd_mir ((oddat_of g j h2 h3).le (by omega))
  · have : ledD o ∈ (draw (mirPl pl) (ledN (oddOf pl) pl qs)).map thD := by
      rw [led]
      exact List.mem_map.mpr ⟨o, ho, rfl⟩
    obtain ⟨u, hu, e⟩ := List.mem_map.mp this
    rw [← e]
    exact th_lim (d2.lim u hu)
  · have e1 := env_at (pl := pl) (ns := qs) pl.length (Nat.le_refl _)
    have e2 := env_at (pl := mirPl pl) (ns := ledN (oddOf pl) pl qs) (mirPl pl).length (Nat.le_refl _)
    rw [lm, ev] at e2
    rw [e1, e2]
    have hc2 : ClN (mirPl pl) c := by
      unfold ClN
      rw [mir_known, mir_known, mir_known]
      exact hc
    have c2 := clok_of (qs := ledN (oddOf pl) pl qs) (mir_gen g) hc2
    rw [lm, ev] at c2
    refine ⟨clok_of g hc, c2, told_T s0_ok (stAt_nz _ (Nat.le_refl _)) c fun e => ?_⟩
    rcases hc with ⟨h1, _⟩ | ⟨_, x, y, h2, h3, h4⟩
    · exact absurd e h1
    · refine ⟨x, y, h2, fun t ht => ?_⟩
      obtain ⟨_, _, o, _, _, _, h5, h6⟩ := known_at (ns := qs) g.nd (Nat.le_refl _) (show x ∈ knownN (pl.take pl.length) .pt by rw [List.take_length]; exact h3)
      exact kd_pt (OfKd.thg ⟨o, h5, h6⟩ ht)
end Ph
set_option linter.all false
set_option maxRecDepth 100000
set_option maxHeartbeats 8000000
namespace Ph
open PySem PySem.Spec PyProof.Rows L2 LamX
/-! ### drawings in whole numbers -/
def Bd (k : Nat) (x : Int) : Prop := x.natAbs ≤ 2 ^ k
theorem Bd.mono {j k : Nat} {x : Int} (h : Bd j x) (l : j ≤ k) : Bd k x := Nat.le_trans h (Nat.pow_le_pow_right (by decide) l)
theorem Bd.mul {j k : Nat} {x y : Int} (h : Bd j x) (g : Bd k y) : Bd (j + k) (x * y) := by
  unfold Bd
  rw [Int.natAbs_mul, Nat.pow_add]
  exact Nat.mul_le_mul h g
theorem Bd.add {k : Nat} {x y : Int} (h : Bd k x) (g : Bd k y) : Bd (k + 1) (x + y) := by
  unfold Bd at *
  rw [Nat.pow_succ]
  omega
theorem Bd.sub {k : Nat} {x y : Int} (h : Bd k x) (g : Bd k y) : Bd (k + 1) (x - y) := by
  unfold Bd at *
  rw [Nat.pow_succ]
  omega
theorem Bd.neg {k : Nat} {x : Int} (h : Bd k x) : Bd k (-x) := by
  unfold Bd at *
  omega
theorem Bd.two {k : Nat} {x : Int} (h : Bd k x) : Bd (k + 1) (2 * x) := by
  unfold Bd at *
  rw [Nat.pow_succ]
  omega
theorem cast0 {W : Int} (h : W ≠ 0) : (W : Rat) ≠ 0 := by simpa using h
theorem mul_n0 {x y : Int} (h : x ≠ 0) (g : y ≠ 0) : x * y ≠ 0 := Int.mul_ne_zero h g
/-- a point of whole numbers -/
def PtN (k : Nat) (z : P2) : Prop := ∃ X Y W : Int, W ≠ 0 ∧ z = ((X : Rat) / W, (Y : Rat) / W) ∧ Bd k X ∧ Bd k Y ∧ Bd k W
theorem PtN.mono {j k : Nat} {z : P2} (h : PtN j z) (l : j ≤ k) : PtN k z := let ⟨X, Y, W, a, b, c, d, e⟩ := h; ⟨X, Y, W, a, b, c.mono l, d.mono l, e.mono l⟩
/-- a line of whole numbers, and its way -/
def LnD (k v : Nat) (n : L3) (w : P2) : Prop := ∃ A B C U V W : Int, (A ≠ 0 ∨ B ≠ 0) ∧ n = scaleL A B C ∧ (Bd k A ∧ Bd k B ∧ Bd k C) ∧ W ≠ 0 ∧ w = ((U : Rat) / W, (V : Rat) / W) ∧ (Bd v U ∧ Bd v V ∧ Bd v W) ∧ (U ≠ 0 ∨ V ≠ 0) ∧ ∃ q : Rat, q ≠ 0 ∧ dirL n = (q * (-V), q * U)
theorem LnD.mono {j k v u : Nat} {n : L3} {w : P2} (h : LnD j v n w) (l : j ≤ k) (m : v ≤ u) : LnD k u n w :=
  let ⟨A, B, C, U, V, W, a, b, ⟨c1, c2, c3⟩, d, e, ⟨f1, f2, f3⟩, g⟩ := h; ⟨A, B, C, U, V, W, a, b, ⟨c1.mono l, c2.mono l, c3.mono l⟩, d, e, ⟨f1.mono m, f2.mono m, f3.mono m⟩, g⟩
/-- a circle of whole numbers, over one bottom -/
def CiN (k : Nat) (m p : P2) : Prop := ∃ X Y U V W : Int, W ≠ 0 ∧ m = ((X : Rat) / W, (Y : Rat) / W) ∧ wayB m p = ((U : Rat) / W, (V : Rat) / W) ∧ (Bd k X ∧ Bd k Y ∧ Bd k W) ∧ Bd k U ∧ Bd k V
theorem CiN.mono {j k : Nat} {m p : P2} (h : CiN j m p) (l : j ≤ k) : CiN k m p :=
  let ⟨X, Y, U, V, W, a, b, c, ⟨d1, d2, d3⟩, e, f⟩ := h; ⟨X, Y, U, V, W, a, b, c, ⟨d1.mono l, d2.mono l, d3.mono l⟩, e.mono l, f.mono l⟩
theorem LnD.nz {k v : Nat} {n : L3} {w : P2} (h : LnD k v n w) : NzV (dirL n) := by
  obtain ⟨A, B, C, U, V, W, a, b, _, _, _, _, _, _⟩ := h
  have z : NzV ((A : Rat), (B : Rat)) := a.elim (fun h => .inl (cast0 h)) fun h => .inr (cast0 h)
  obtain ⟨q, q0, e⟩ := scale_form (C := (C : Rat)) z
  rw [b, e]
  exact nz_mul q0 z
section
variable {j k v : Nat}
theorem pt_mid {p q : P2} (hp : PtN j p) (hq : PtN k q) : PtN (j + k + 1) (midP p q) := by
  obtain ⟨X, Y, W, w0, rfl, bX, bY, bW⟩ := hp
  obtain ⟨A, B, C, c0, rfl, bA, bB, bC⟩ := hq
  have w1 := cast0 w0
  have c1 := cast0 c0
  have h2 : Rat.divInt 1 2 = (1 : Rat) / 2 := by decide +kernel
  refine ⟨X * C + A * W, Y * C + B * W, 2 * (W * C), mul_n0 (by decide) (mul_n0 w0 c0), P2.ext ?_ ?_, (bX.mul bC).add ((bA.mul bW).mono (by omega)), (bY.mul bC).add ((bB.mul bW).mono (by omega)), (bW.mul bC).two⟩ <;> simp only [midP, goneP, wayB, h2] <;> grind
theorem leftN_c {k : Nat} (h1 : 1 ≤ k) (h3 : k ≤ 3) (w : P2) : ∃ a b : Int, (a = 0 ∧ (b = 1 ∨ b = -1) ∨ b = 0 ∧ (a = 1 ∨ a = -1)) ∧ leftN k w = (a * w.1 - b * w.2, b * w.1 + a * w.2) := by
  match k, h1, h3 with
  | 1, _, _ => exact ⟨0, 1, .inl ⟨rfl, .inl rfl⟩, by refine P2.ext ?_ ?_ <;> simp only [leftN, leftP] <;> grind⟩
  | 2, _, _ => exact ⟨-1, 0, .inr ⟨rfl, .inr rfl⟩, by refine P2.ext ?_ ?_ <;> simp only [leftN, leftP] <;> grind⟩
  | 3, _, _ => exact ⟨0, -1, .inl ⟨rfl, .inr rfl⟩, by refine P2.ext ?_ ?_ <;> simp only [leftN, leftP] <;> grind⟩
theorem pt_turn {p o : P2} {t : Nat} (h1 : 1 ≤ t) (h3 : t ≤ 3) (hp : PtN j p) (ho : PtN k o) : PtN (j + k + 2) (turnP p o t) := by
  obtain ⟨X, Y, W, w0, rfl, bX, bY, bW⟩ := hp
  obtain ⟨A, B, C, c0, rfl, bA, bB, bC⟩ := ho
  have w1 := cast0 w0
  have c1 := cast0 c0
  obtain ⟨a, b, hab, e⟩ := leftN_c h1 h3 (wayB ((A : Rat) / C, (B : Rat) / C) ((X : Rat) / W, (Y : Rat) / W))
  have bU : Bd (j + k + 1) (X * C - A * W) := (bX.mul bC).sub ((bA.mul bW).mono (by omega))
  have bV : Bd (j + k + 1) (Y * C - B * W) := (bY.mul bC).sub ((bB.mul bW).mono (by omega))
  have b1 : Bd (j + k + 1) (A * W) := (bA.mul bW).mono (by omega)
  have b2 : Bd (j + k + 1) (B * W) := (bB.mul bW).mono (by omega)
  unfold turnP
  rw [e]
  refine ⟨A * W + (a * (X * C - A * W) - b * (Y * C - B * W)), B * W + (b * (X * C - A * W) + a * (Y * C - B * W)), W * C, mul_n0 w0 c0, P2.ext ?_ ?_, ?_, ?_, (bW.mul bC).mono (by omega)⟩
  · simp only [goneP, wayB]; grind
  · simp only [goneP, wayB]; grind
  · rcases hab with ⟨rfl, rfl | rfl⟩ | ⟨rfl, rfl | rfl⟩
    · rw [show A * W + (0 * (X * C - A * W) - 1 * (Y * C - B * W)) = A * W - (Y * C - B * W) by grind]
      exact b1.sub bV
    · rw [show A * W + (0 * (X * C - A * W) - -1 * (Y * C - B * W)) = A * W + (Y * C - B * W) by grind]
      exact b1.add bV
    · rw [show A * W + (1 * (X * C - A * W) - 0 * (Y * C - B * W)) = A * W + (X * C - A * W) by grind]
      exact b1.add bU
    · rw [show A * W + (-1 * (X * C - A * W) - 0 * (Y * C - B * W)) = A * W - (X * C - A * W) by grind]
      exact b1.sub bU
  · rcases hab with ⟨rfl, rfl | rfl⟩ | ⟨rfl, rfl | rfl⟩
    · rw [show B * W + (1 * (X * C - A * W) + 0 * (Y * C - B * W)) = B * W + (X * C - A * W) by grind]
      exact b2.add bU
    · rw [show B * W + (-1 * (X * C - A * W) + 0 * (Y * C - B * W)) = B * W - (X * C - A * W) by grind]
      exact b2.sub bU
    · rw [show B * W + (0 * (X * C - A * W) + 1 * (Y * C - B * W)) = B * W + (Y * C - B * W) by grind]
      exact b2.add bV
    · rw [show B * W + (0 * (X * C - A * W) + -1 * (Y * C - B * W)) = B * W - (Y * C - B * W) by grind]
      exact b2.sub bV
theorem pt_meet {l n : L3} {w u : P2} {v1 v2 : Nat} (hl : LnD j v1 l w) (hn : LnD k v2 n u) (c : crsP (dirL l) (dirL n) ≠ 0) : PtN (j + k + 1) (meetP l n) := by
  have zl := hl.nz
  have zn := hn.nz
  obtain ⟨A, B, C, _, _, _, a0, el, ⟨bA, bB, bC⟩, _⟩ := hl
  obtain ⟨D, F, G, _, _, _, d0, en, ⟨bD, bF, bG⟩, _⟩ := hn
  have za : NzV ((A : Rat), (B : Rat)) := a0.elim (fun h => .inl (cast0 h)) fun h => .inr (cast0 h)
  have zd : NzV ((D : Rat), (F : Rat)) := d0.elim (fun h => .inl (cast0 h)) fun h => .inr (cast0 h)
  obtain ⟨q, q0, e⟩ := scale_form (C := (C : Rat)) za
  obtain ⟨r, r0, g⟩ := scale_form (C := (G : Rat)) zd
  have el2 : l = (q * A, q * B, q * C) := el.trans e
  have en2 : n = (r * D, r * F, r * G) := en.trans g
  have c2 : ((A * F - B * D : Int) : Rat) ≠ 0 := by
    rw [el2, en2] at c
    intro z
    refine c ?_
    simp only [crsP, dirL]
    have : (A : Rat) * F - B * D = 0 := by grind
    grind
  have w0 : A * F - B * D ≠ 0 := fun z => c2 (by rw [z]; rfl)
  refine ⟨C * F - G * B, A * G - D * C, A * F - B * D, w0, ?_, ((bC.mul bF).sub ((bG.mul bB).mono (by omega))).mono (by omega), ((bA.mul bG).sub ((bD.mul bC).mono (by omega))).mono (by omega), ((bA.mul bF).sub ((bB.mul bD).mono (by omega))).mono (by omega)⟩
  have c3 : (A : Rat) * F - B * D ≠ 0 := fun z => c2 (by grind)
  refine meet_one c ?_ ?_
  · rw [el2]
    simp only [dotP, dirL]
    grind
  · rw [en2]
    simp only [dotP, dirL]
    grind
theorem foot_form {p : P2} {A B C q t : Rat} (q0 : q ≠ 0) (z : A * A + B * B ≠ 0) : goneP p (dirL (q * A, q * B, q * C)) (farL p (q * A, q * B, q * C) * t) = (p.1 + A * ((C - (p.1 * A + p.2 * B)) * t / (A * A + B * B)), p.2 + B * ((C - (p.1 * A + p.2 * B)) * t / (A * A + B * B))) := by
  refine P2.ext ?_ ?_ <;> simp only [goneP, farL, dotP, dirL] <;> grind
theorem pt_far {p : P2} {l : L3} {w : P2} {v1 : Nat} (hp : PtN j p) (hl : LnD k v1 l w) (t : Int) (ht : t = 1 ∨ t = 2) : PtN (j + 2 * k + 3) (goneP p (dirL l) (farL p l * t)) := by
  obtain ⟨X, Y, W, w0, rfl, bX, bY, bW⟩ := hp
  obtain ⟨A, B, C, _, _, _, a0, el, ⟨bA, bB, bC⟩, _⟩ := hl
  have za : NzV ((A : Rat), (B : Rat)) := a0.elim (fun h => .inl (cast0 h)) fun h => .inr (cast0 h)
  obtain ⟨q, q0, e⟩ := scale_form (C := (C : Rat)) za
  have el2 : l = (q * A, q * B, q * C) := el.trans e
  have nn : (A : Rat) * A + B * B ≠ 0 := nz_dot za
  have n0 : A * A + B * B ≠ 0 := fun z => nn (by have : ((A * A + B * B : Int) : Rat) = 0 := by rw [z]; rfl
                                                 grind)
  have w1 := cast0 w0
  have bN : Bd (2 * k + 1) (A * A + B * B) := ((bA.mul bA).add (bB.mul bB)).mono (by omega)
  have bT : ∀ x : Int, Bd (j + 2 * k + 2) x → Bd (j + 2 * k + 2) x := fun _ h => h
  -- C W - X A - Y B, without its two parts each
  have b1 : Bd (j + k) (C * W) := (bC.mul bW).mono (by omega)
  have b2 : Bd (j + k) (X * A) := bX.mul bA
  have b3 : Bd (j + k) (Y * B) := bY.mul bB
  rw [el2, foot_form q0 nn]
  have lt : t.natAbs ≤ 2 := by rcases ht with rfl | rfl <;> decide
  have bound : ∀ {Z E : Int}, Bd j Z → Bd k E → Bd (j + 2 * k + 3) (Z * (A * A + B * B) + E * (t * (C * W - (X * A + Y * B)))) := by
    intro Z E hZ hE
    have h1 : (Z * (A * A + B * B)).natAbs ≤ 2 ^ (j + 2 * k) * 2 := by
      have := hZ.mul bN
      unfold Bd at this
      rw [show j + (2 * k + 1) = j + 2 * k + 1 by omega, Nat.pow_succ] at this
      exact this
    have h2 : (C * W - (X * A + Y * B)).natAbs ≤ 3 * 2 ^ (j + k) := by
      unfold Bd at b1 b2 b3
      omega
    have h3 : (E * (t * (C * W - (X * A + Y * B)))).natAbs ≤ 2 ^ (j + 2 * k) * 6 := by
      rw [Int.natAbs_mul, Int.natAbs_mul]
      have h4 : t.natAbs * (C * W - (X * A + Y * B)).natAbs ≤ 2 * (3 * 2 ^ (j + k)) := Nat.mul_le_mul lt h2
      have h5 := Nat.mul_le_mul (show E.natAbs ≤ 2 ^ k from hE) h4
      have e : 2 ^ k * (2 * (3 * 2 ^ (j + k))) = 2 ^ (j + 2 * k) * 6 := by
        rw [show j + 2 * k = k + (j + k) by omega, Nat.pow_add 2 k]
        generalize 2 ^ k = x
        generalize 2 ^ (j + k) = y
        grind
      omega
    unfold Bd
    rw [Nat.pow_add 2 (j + 2 * k) 3]
    omega
  refine ⟨X * (A * A + B * B) + A * (t * (C * W - (X * A + Y * B))), Y * (A * A + B * B) + B * (t * (C * W - (X * A + Y * B))), W * (A * A + B * B), mul_n0 w0 n0, P2.ext ?_ ?_, bound bX bA, bound bY bB, (bW.mul bN).mono (by omega)⟩
  · dsimp only; grind
  · dsimp only; grind
theorem pt_foot {p : P2} {l : L3} {w : P2} {v1 : Nat} (hp : PtN j p) (hl : LnD k v1 l w) : PtN (j + 2 * k + 3) (footP p l) := by
  have := pt_far hp hl 1 (.inl rfl)
  unfold footP
  rw [show farL p l * ((1 : Int) : Rat) = farL p l by grind] at this
  exact this
theorem pt_mirr {p : P2} {l : L3} {w : P2} {v1 : Nat} (hp : PtN j p) (hl : LnD k v1 l w) : PtN (j + 2 * k + 3) (mirP p l) := by
  have := pt_far hp hl 2 (.inr rfl)
  unfold mirP
  rw [show farL p l * ((2 : Int) : Rat) = farL p l * 2 by grind] at this
  exact this
/-- a number of few digits -/
def TqN (t : Rat) : Prop := ∃ n d : Int, d ≠ 0 ∧ t = (n : Rat) / d ∧ Bd 10 n ∧ Bd 4 d
theorem pt_on {b w : P2} {t : Rat} {l : L3} {k1 : Nat} (hb : PtN j b) (hl : LnD k1 v l w) (ht : TqN t) : PtN (j + v + 15) (goneP b w t) := by
  obtain ⟨X, Y, W, w0, rfl, bX, bY, bW⟩ := hb
  obtain ⟨_, _, _, U, V, Z, _, _, _, z0, rfl, ⟨bU, bV, bZ⟩, _⟩ := hl
  obtain ⟨n, d, d0, rfl, bn, bd⟩ := ht
  have w1 := cast0 w0
  have z1 := cast0 z0
  have d1 := cast0 d0
  refine ⟨X * (Z * d) + U * (W * n), Y * (Z * d) + V * (W * n), W * (Z * d), mul_n0 w0 (mul_n0 z0 d0), P2.ext ?_ ?_, ?_, ?_, ?_⟩
  · simp only [goneP]; grind
  · simp only [goneP]; grind
  · exact (((bX.mul (bZ.mul bd)).mono (show _ ≤ j + v + 14 by omega)).add ((bU.mul (bW.mul bn)).mono (by omega)))
  · exact (((bY.mul (bZ.mul bd)).mono (show _ ≤ j + v + 14 by omega)).add ((bV.mul (bW.mul bn)).mono (by omega)))
  · exact (bW.mul (bZ.mul bd)).mono (by omega)
theorem pt_round {m p : P2} {t : Rat} (hc : CiN k m p) (ht : TqN t) : PtN (k + 23) (onP m p t) := by
  obtain ⟨X, Y, U, V, W, w0, rfl, ew, ⟨bX, bY, bW⟩, bU, bV⟩ := hc
  obtain ⟨n, d, d0, rfl, bn, bd⟩ := ht
  have w1 := cast0 w0
  have d1 := cast0 d0
  have nn : (n : Rat) * n + (d : Rat) * d ≠ 0 := nz_dot (w := ((n : Rat), (d : Rat))) (.inr d1)
  have n0 : n * n + d * d ≠ 0 := fun z => nn (by have : ((n * n + d * d : Int) : Rat) = 0 := by rw [z]; rfl
                                                 grind)
  have o0 : 1 + (n : Rat) / d * (n / d) ≠ 0 := by grind
  have bN : Bd 21 (n * n + d * d) := (bn.mul bn).add ((bd.mul bd).mono (by omega))
  have bM : Bd 21 (d * d - n * n) := ((bd.mul bd).mono (show _ ≤ 20 by omega)).sub (bn.mul bn)
  have bQ : Bd 21 (2 * (n * d)) := ((bn.mul bd).two).mono (by omega)
  have q1 : (1 - (n : Rat) / d * (n / d)) / (1 + (n : Rat) / d * (n / d)) = ((d : Rat) * d - n * n) / (n * n + d * d) := by
    clear bn bd bN bM bQ ew
    grind
  have q2 : ((n : Rat) / d + n / d) / (1 + (n : Rat) / d * (n / d)) = (2 * ((n : Rat) * d)) / (n * n + d * d) := by
    clear bn bd bN bM bQ ew
    grind
  unfold onP
  rw [ew, q1, q2]
  clear q1 q2 ew o0
  have nw : (W : Rat) * ((n : Rat) * n + d * d) ≠ 0 := by grind
  refine ⟨X * (n * n + d * d) + U * (d * d - n * n) - V * (2 * (n * d)), Y * (n * n + d * d) + V * (d * d - n * n) + U * (2 * (n * d)), W * (n * n + d * d), mul_n0 w0 n0, P2.ext ?_ ?_, ?_, ?_, (bW.mul bN).mono (by omega)⟩
  · simp only [goneP, leftP]; grind
  · simp only [goneP, leftP]; grind
  · exact (((bX.mul bN).add (bU.mul bM)).sub ((bV.mul bQ).mono (by omega))).mono (by omega)
  · exact (((bY.mul bN).add (bV.mul bM)).add ((bU.mul bQ).mono (by omega))).mono (by omega)
end
end Ph
set_option linter.all false
set_option maxRecDepth 100000
set_option maxHeartbeats 8000000
namespace Ph
open PySem PySem.Spec PyProof.Rows L2 LamX
section
variable {j k v : Nat}
theorem int_nn {A B : Int} (h : A ≠ 0 ∨ B ≠ 0) : A * A + B * B ≠ 0 := fun z => by
  have nn : (A : Rat) * A + B * B ≠ 0 := nz_dot (w := ((A : Rat), (B : Rat))) (h.elim (fun h => .inl (cast0 h)) fun h => .inr (cast0 h))
  have : ((A * A + B * B : Int) : Rat) = 0 := by rw [z]; rfl
  grind
/-- a point turned over at a circle's middle -/
theorem pt_oth {a m p : P2} {l : L3} {w : P2} {v1 u : Nat} (ha : PtN j a) (hc : CiN u m p) (hl : LnD k v1 l w) : PtN (j + u + 2 * k + 5) (othP l m a) := by
  obtain ⟨X, Y, W, w0, rfl, bX, bY, bW⟩ := ha
  obtain ⟨F, G, _, _, Z, z0, rfl, _, ⟨bF, bG, bZ⟩, _, _⟩ := hc
  obtain ⟨A, B, C, _, _, _, a0, el, ⟨bA, bB, bC⟩, _⟩ := hl
  have za : NzV ((A : Rat), (B : Rat)) := a0.elim (fun h => .inl (cast0 h)) fun h => .inr (cast0 h)
  obtain ⟨q, q0, e⟩ := scale_form (C := (C : Rat)) za
  have el2 : l = (q * A, q * B, q * C) := el.trans e
  have nn : (A : Rat) * A + B * B ≠ 0 := nz_dot za
  have n0 := int_nn a0
  have w1 := cast0 w0
  have z1 := cast0 z0
  have bN : Bd (2 * k + 1) (A * A + B * B) := ((bA.mul bA).add (bB.mul bB)).mono (by omega)
  -- the upright through the middle
  have eu : uprightL ((F : Rat) / Z, (G : Rat) / Z) l = scaleL (-(B : Rat)) A (-(B : Rat) * (F / Z) + A * (G / Z)) := by
    have e1 : leftP (dirL l) = scV q (-(B : Rat), (A : Rat)) := by
      rw [el2]
      refine P2.ext ?_ ?_ <;> simp only [leftP, dirL, scV] <;> grind
    unfold uprightL
    rw [e1, by_k q0]
    unfold lineBy dotP
    congr 1
    dsimp only
    grind
  have zb : NzV (-(B : Rat), (A : Rat)) := za.elim (fun h => .inr h) fun h => .inl (fun z => h (by have z : -(B : Rat) = 0 := z; show (B : Rat) = 0; grind))
  obtain ⟨r, r0, g⟩ := scale_form (C := -(B : Rat) * (F / Z) + A * (G / Z)) zb
  unfold othP mirP
  rw [eu, g, foot_form r0 (by grind)]
  let T : Int := (F * W - X * Z) * (-B) + (G * W - Y * Z) * A
  have bT : Bd (j + u + k + 2) T := by
    have h1 : Bd (j + u + 1) (F * W - X * Z) := ((bF.mul bW).mono (show _ ≤ j + u by omega)).sub ((bX.mul bZ).mono (by omega))
    have h2 : Bd (j + u + 1) (G * W - Y * Z) := ((bG.mul bW).mono (show _ ≤ j + u by omega)).sub ((bY.mul bZ).mono (by omega))
    exact ((h1.mul bB.neg).mono (show _ ≤ j + u + k + 1 by omega)).add ((h2.mul bA).mono (by omega))
  have bound : ∀ {E D : Int}, Bd j E → Bd k D → Bd (j + u + 2 * k + 4) (E * (Z * (A * A + B * B)) + D * (2 * T)) := fun {E D} hE hD =>
    ((hE.mul (bZ.mul bN)).mono (show _ ≤ j + u + 2 * k + 3 by omega)).add ((hD.mul bT.two).mono (by omega))
  refine ⟨X * (Z * (A * A + B * B)) + (-B) * (2 * T), Y * (Z * (A * A + B * B)) + A * (2 * T), W * (Z * (A * A + B * B)), mul_n0 w0 (mul_n0 z0 n0), P2.ext ?_ ?_, (bound bX bB.neg).mono (by omega), (bound bY bA).mono (by omega), (bW.mul (bZ.mul bN)).mono (by omega)⟩
  · show _ = ((X * (Z * (A * A + B * B)) + (-B) * (2 * ((F * W - X * Z) * (-B) + (G * W - Y * Z) * A)) : Int) : Rat) / ((W * (Z * (A * A + B * B)) : Int) : Rat)
    dsimp only
    clear bT bound eu g e el2 bN bX bY bW bF bG bZ bA bB bC zb
    have nd : (W : Rat) * (Z * (A * A + B * B)) ≠ 0 := by grind
    grind
  · show _ = ((Y * (Z * (A * A + B * B)) + A * (2 * ((F * W - X * Z) * (-B) + (G * W - Y * Z) * A)) : Int) : Rat) / ((W * (Z * (A * A + B * B)) : Int) : Rat)
    dsimp only
    clear bT bound eu g e el2 bN bX bY bW bF bG bZ bA bB bC zb
    have nd : (W : Rat) * (Z * (A * A + B * B)) ≠ 0 := by grind
    grind
theorem ln_line {p q : P2} (hp : PtN j p) (hq : PtN k q) (ne : p ≠ q) : LnD (j + k + 1) (j + k + 1) (throughL p q) (wayB p q) := by
  obtain ⟨X, Y, W, w0, rfl, bX, bY, bW⟩ := hp
  obtain ⟨F, G, Z, z0, rfl, bF, bG, bZ⟩ := hq
  have w1 := cast0 w0
  have z1 := cast0 z0
  have ew : wayB ((X : Rat) / W, (Y : Rat) / W) ((F : Rat) / Z, (G : Rat) / Z) = (((F * W - X * Z : Int) : Rat) / ((W * Z : Int) : Rat), ((G * W - Y * Z : Int) : Rat) / ((W * Z : Int) : Rat)) := by
    refine P2.ext ?_ ?_ <;> simp only [wayB] <;> grind
  have d0 : W * Z ≠ 0 := mul_n0 w0 z0
  have d1 := cast0 d0
  have bU : Bd (j + k + 1) (F * W - X * Z) := ((bF.mul bW).mono (show _ ≤ j + k by omega)).sub ((bX.mul bZ).mono (by omega))
  have bV : Bd (j + k + 1) (G * W - Y * Z) := ((bG.mul bW).mono (show _ ≤ j + k by omega)).sub ((bY.mul bZ).mono (by omega))
  have nz : F * W - X * Z ≠ 0 ∨ G * W - Y * Z ≠ 0 := by
    have n := way_nz ne
    rw [ew] at n
    rcases n with n | n
    · exact .inl fun z => n (by rw [z]; show (0 : Rat) / _ = 0; grind)
    · exact .inr fun z => n (by rw [z]; show (0 : Rat) / _ = 0; grind)
  have zb : NzV (-((G * W - Y * Z : Int) : Rat), ((F * W - X * Z : Int) : Rat)) := nz.elim (fun h => .inr (cast0 h)) fun h => .inl (fun z => cast0 h (by have z : -((G * W - Y * Z : Int) : Rat) = 0 := z; grind))
  have et : throughL ((X : Rat) / W, (Y : Rat) / W) ((F : Rat) / Z, (G : Rat) / Z) = scaleL ((-(G * W - Y * Z) : Int) : Rat) ((F * W - X * Z : Int) : Rat) ((F * Y - X * G : Int) : Rat) := by
    unfold throughL lineBy
    rw [ew, ← scale_k (k := 1 / ((W * Z : Int) : Rat)) (by grind) (A := ((-(G * W - Y * Z) : Int) : Rat))]
    congr 1
    · simp only [leftP]; grind
    · simp only [leftP]; grind
    · simp only [leftP, dotP]; grind
  refine ⟨-(G * W - Y * Z), F * W - X * Z, F * Y - X * G, F * W - X * Z, G * W - Y * Z, W * Z, nz.elim (fun h => .inr h) (fun h => .inl (by omega)), et, ⟨bV.neg, bU, ((bF.mul bY).mono (show _ ≤ j + k by omega)).sub ((bX.mul bG).mono (by omega))⟩, d0, ew, ⟨bU, bV, (bW.mul bZ).mono (by omega)⟩, nz, ?_⟩
  have ec : ((-(G * W - Y * Z) : Int) : Rat) = -((G * W - Y * Z : Int) : Rat) := Rat.intCast_neg _
  obtain ⟨r, r0, g⟩ := scale_form (C := ((F * Y - X * G : Int) : Rat)) zb
  refine ⟨r, r0, ?_⟩
  rw [et, ec, g]
  rfl
theorem by_form {p : P2} {X Y W U V : Int} {q : Rat} (q0 : q ≠ 0) (w0 : W ≠ 0) (ep : p = ((X : Rat) / W, (Y : Rat) / W)) : lineBy p (q * U, q * V) = scaleL ((U * W : Int) : Rat) ((V * W : Int) : Rat) ((U * X + V * Y : Int) : Rat) := by
  have w1 := cast0 w0
  have e1 : lineBy p (q * U, q * V) = lineBy p ((U : Rat), (V : Rat)) := by_k (w := ((U : Rat), (V : Rat))) q0
  rw [e1, ep]
  unfold lineBy
  rw [← scale_k (k := 1 / (W : Rat)) (by grind) (A := ((U * W : Int) : Rat))]
  congr 1
  · grind
  · grind
  · simp only [dotP]; grind
theorem ln_along {p : P2} {l : L3} {w : P2} {k1 : Nat} (hp : PtN j p) (hl : LnD k1 v l w) : LnD (j + v + 1) v (alongL p l) w := by
  obtain ⟨X, Y, W, w0, ep, bX, bY, bW⟩ := hp
  obtain ⟨_, _, _, U, V, Z, _, _, _, z0, ew, ⟨bU, bV, bZ⟩, nz, q, q0, ed⟩ := hl
  have ed2 : dirL l = (q * ((-V : Int) : Rat), q * (U : Rat)) := by rw [ed, Rat.intCast_neg]
  have et : alongL p l = scaleL (((-V) * W : Int) : Rat) ((U * W : Int) : Rat) (((-V) * X + U * Y : Int) : Rat) := by
    unfold alongL
    rw [ed2]
    exact by_form q0 w0 ep
  have a0 : (-V) * W ≠ 0 ∨ U * W ≠ 0 := nz.elim (fun h => .inr (mul_n0 h w0)) fun h => .inl (mul_n0 (by omega) w0)
  refine ⟨(-V) * W, U * W, (-V) * X + U * Y, U, V, Z, a0, et, ⟨(bV.neg.mul bW).mono (by omega), (bU.mul bW).mono (by omega), ((bV.neg.mul bX).mono (show _ ≤ j + v by omega)).add ((bU.mul bY).mono (by omega))⟩, z0, ew, ⟨bU, bV, bZ⟩, nz, ?_⟩
  have zb : NzV ((((-V) * W : Int) : Rat), ((U * W : Int) : Rat)) := a0.elim (fun h => .inl (cast0 h)) fun h => .inr (cast0 h)
  obtain ⟨r, r0, g⟩ := scale_form (C := (((-V) * X + U * Y : Int) : Rat)) zb
  have w1 := cast0 w0
  refine ⟨r * W, by grind, ?_⟩
  rw [et, g]
  refine P2.ext ?_ ?_ <;> simp only [dirL] <;> grind
theorem ln_upright {p : P2} {l : L3} {w : P2} {k1 : Nat} (hp : PtN j p) (hl : LnD k1 v l w) : LnD (j + v + 1) v (uprightL p l) (leftP w) := by
  obtain ⟨X, Y, W, w0, ep, bX, bY, bW⟩ := hp
  obtain ⟨_, _, _, U, V, Z, _, _, _, z0, ew, ⟨bU, bV, bZ⟩, nz, q, q0, ed⟩ := hl
  have ed2 : leftP (dirL l) = (q * ((-U : Int) : Rat), q * ((-V : Int) : Rat)) := by
    rw [ed, Rat.intCast_neg, Rat.intCast_neg]
    refine P2.ext ?_ ?_ <;> simp only [leftP] <;> grind
  have et : uprightL p l = scaleL (((-U) * W : Int) : Rat) (((-V) * W : Int) : Rat) (((-U) * X + (-V) * Y : Int) : Rat) := by
    unfold uprightL
    rw [ed2]
    exact by_form q0 w0 ep
  have a0 : (-U) * W ≠ 0 ∨ (-V) * W ≠ 0 := nz.elim (fun h => .inl (mul_n0 (by omega) w0)) fun h => .inr (mul_n0 (by omega) w0)
  have ew2 : leftP w = (((-V : Int) : Rat) / Z, (U : Rat) / Z) := by
    rw [ew, Rat.intCast_neg]
    refine P2.ext ?_ ?_ <;> simp only [leftP] <;> grind
  refine ⟨(-U) * W, (-V) * W, (-U) * X + (-V) * Y, -V, U, Z, a0, et, ⟨(bU.neg.mul bW).mono (by omega), (bV.neg.mul bW).mono (by omega), ((bU.neg.mul bX).mono (show _ ≤ j + v by omega)).add ((bV.neg.mul bY).mono (by omega))⟩, z0, ew2, ⟨bV.neg, bU, bZ⟩, nz.elim (fun h => .inr h) (fun h => .inl (by omega)), ?_⟩
  have zb : NzV ((((-U) * W : Int) : Rat), (((-V) * W : Int) : Rat)) := a0.elim (fun h => .inl (cast0 h)) fun h => .inr (cast0 h)
  obtain ⟨r, r0, g⟩ := scale_form (C := (((-U) * X + (-V) * Y : Int) : Rat)) zb
  have w1 := cast0 w0
  refine ⟨r * W, by grind, ?_⟩
  rw [et, g]
  refine P2.ext ?_ ?_ <;> simp only [dirL] <;> grind
theorem ci_circ {m p : P2} (hm : PtN j m) (hp : PtN k p) : CiN (j + k + 1) m p := by
  obtain ⟨X, Y, W, w0, rfl, bX, bY, bW⟩ := hm
  obtain ⟨F, G, Z, z0, rfl, bF, bG, bZ⟩ := hp
  have w1 := cast0 w0
  have z1 := cast0 z0
  refine ⟨X * Z, Y * Z, F * W - X * Z, G * W - Y * Z, W * Z, mul_n0 w0 z0, ?_, ?_, ⟨(bX.mul bZ).mono (by omega), (bY.mul bZ).mono (by omega), (bW.mul bZ).mono (by omega)⟩, ((bF.mul bW).mono (show _ ≤ j + k by omega)).sub ((bX.mul bZ).mono (by omega)), ((bG.mul bW).mono (show _ ≤ j + k by omega)).sub ((bY.mul bZ).mono (by omega))⟩
  · refine P2.ext ?_ ?_ <;> dsimp only <;> grind
  · refine P2.ext ?_ ?_ <;> simp only [wayB] <;> grind
end
end Ph
set_option linter.all false
set_option maxRecDepth 100000
set_option maxHeartbeats 8000000
namespace Ph
open PySem PySem.Spec PyProof.Rows L2 LamX
/-! ### how the sizes grow, step by step: bits of points, of lines, of circles beyond the weight's share -/
def frontN : Nat → List (Nat × Nat × Nat)
  | 0 => [(0, 0, 0)]
  | 1 => [(0, 0, 1), (0, 1, 0), (2, 0, 0)]
  | 2 => [(0, 1, 1), (2, 0, 5), (2, 5, 0), (5, 1, 0), (6, 0, 0)]
  | 3 => [(2, 5, 5), (5, 1, 11), (6, 0, 13), (6, 13, 0), (8, 1, 1), (15, 5, 0)]
  | 4 => [(6, 13, 13), (8, 17, 1), (15, 5, 31), (15, 31, 0), (22, 5, 5), (23, 1, 11), (35, 13, 0)]
  | 5 => [(15, 31, 31), (23, 47, 11), (35, 13, 71), (35, 71, 0), (48, 17, 1), (50, 13, 13), (61, 5, 31), (80, 31, 0)]
  | 6 => [(35, 71, 71), (61, 123, 31), (80, 31, 161), (80, 161, 0), (113, 31, 31), (133, 47, 11), (137, 13, 71), (180, 71, 0)]
  | 7 => [(80, 161, 161), (137, 275, 71), (180, 71, 361), (180, 361, 0), (253, 71, 71), (308, 31, 161), (343, 123, 31), (405, 161, 0)]
  | 8 => [(180, 361, 361), (308, 617, 161), (343, 687, 31), (405, 161, 811), (405, 811, 0), (568, 161, 161), (688, 71, 361), (763, 275, 71), (905, 361, 0)]
  | 9 => [(405, 811, 811), (688, 1377, 361), (763, 1527, 71), (905, 361, 1811), (905, 1811, 0), (1268, 361, 361), (1543, 161, 811), (1708, 617, 161), (1753, 687, 31), (2030, 811, 0)]
  | _ => [(905, 1811, 1811), (1543, 3087, 811), (1708, 3417, 161), (1753, 3507, 31), (2030, 811, 4061), (2030, 4061, 0), (2843, 811, 811), (3443, 361, 1811), (3808, 1377, 361), (3893, 1527, 71), (4530, 1811, 0)]
def nextN (s : Nat × Nat × Nat) : List (Nat × Nat × Nat) :=
  [s, (2 * s.1 + 2, s.2.1, s.2.2), (s.1, max s.2.1 (2 * s.1 + 1), s.2.2), (s.1, s.2.1, max s.2.2 (2 * s.1 + 1))] ++
  (if 0 < s.2.1 then [(s.1 + 2 * s.2.1 + 3, s.2.1, s.2.2), (s.1, s.1 + s.2.1 + 1, s.2.2)] else []) ++
  (if 0 < s.2.2 then [(max s.1 s.2.2, s.2.1, s.2.2)] else []) ++
  (if 0 < s.2.1 ∧ 0 < s.2.2 then [(s.1 + s.2.2 + 2 * s.2.1 + 5, s.2.1, s.2.2)] else [])
def domN (t u : Nat × Nat × Nat) : Bool := decide (t.1 ≤ u.1) && decide (t.2.1 ≤ u.2.1) && decide (t.2.2 ≤ u.2.2)
theorem front_ok : ((List.range 10).all fun n => (frontN n).all fun s => (nextN s).all fun t => (frontN (n + 1)).any fun u => domN t u) = true := by decide +kernel
theorem front_top : ((List.range 11).all fun n => (frontN n).all fun s => decide (s.1 ≤ 4530) && decide (s.2.1 ≤ 4061) && decide (s.2.2 ≤ 4061)) = true := by decide +kernel
theorem front_step {n : Nat} (hn : n < 10) {s t : Nat × Nat × Nat} (hs : s ∈ frontN n) (ht : t ∈ nextN s) : ∃ u ∈ frontN (n + 1), t.1 ≤ u.1 ∧ t.2.1 ≤ u.2.1 ∧ t.2.2 ≤ u.2.2 := by
  have h1 := List.all_eq_true.mp front_ok n (List.mem_range.mpr hn)
  have h2 := List.all_eq_true.mp h1 s hs
  have h3 := List.all_eq_true.mp h2 t ht
  obtain ⟨u, h4, h5⟩ := List.any_eq_true.mp h3
  unfold domN at h5
  rw [Bool.and_eq_true, Bool.and_eq_true] at h5
  exact ⟨u, h4, of_decide_eq_true h5.1.1, of_decide_eq_true h5.1.2, of_decide_eq_true h5.2⟩
theorem front_le {n : Nat} (hn : n ≤ 10) {s : Nat × Nat × Nat} (hs : s ∈ frontN n) : s.1 ≤ 4530 ∧ s.2.1 ≤ 4061 ∧ s.2.2 ≤ 4061 := by
  have h1 := List.all_eq_true.mp front_top n (List.mem_range.mpr (by omega))
  have h5 := List.all_eq_true.mp h1 s hs
  rw [Bool.and_eq_true, Bool.and_eq_true] at h5
  exact ⟨of_decide_eq_true h5.1.1, of_decide_eq_true h5.1.2, of_decide_eq_true h5.2⟩
/-- a thing's size: its weight's share, and the state's -/
def SzT (w y : Nat) (s : Nat × Nat × Nat) : Thg → Prop
  | .pt z => PtN (64 * w + s.1) z
  | .ln n b u => 0 < s.2.1 ∧ LnD (64 * w + s.2.1) (64 * y + s.2.1) n u ∧ PtN (64 * w + s.1) b
  | .ci m p => 0 < s.2.2 ∧ CiN (64 * w + s.2.2) m p ∧ PtN (64 * w + s.1) m ∧ PtN (64 * w + s.1) p
theorem SzT.mono {w y : Nat} {s u : Nat × Nat × Nat} {t : Thg} (h : SzT w y s t) (l : s.1 ≤ u.1 ∧ s.2.1 ≤ u.2.1 ∧ s.2.2 ≤ u.2.2) : SzT w y u t := by
  obtain ⟨l1, l2, l3⟩ := l
  cases t with
  | pt z => exact PtN.mono h (by omega)
  | ln n b v => exact ⟨Nat.lt_of_lt_of_le h.1 l2, h.2.1.mono (by omega) (by omega), h.2.2.mono (by omega)⟩
  | ci m p => exact ⟨Nat.lt_of_lt_of_le h.1 l3, h.2.1.mono (by omega), h.2.2.1.mono (by omega), h.2.2.2.mono (by omega)⟩
def SzE (W : Wts) (E : Ev) (s : Nat × Nat × Nat) : Prop := ∀ y t, thg E y = some t → SzT (wOf W y) (yOf W y) s t
/-- the size of what a step makes -/
theorem sz_step {W : Wts} {E : Ev} {s : Nat × Nat × Nat} (h : SzE W E s) {st : Stp} {ns : List Rat} {t : Thg} (hk : ∀ p q k, st = .turn p q k → 1 ≤ k ∧ k ≤ 3) (hf : st ≠ .free) (hn : ∀ q ∈ ns, TqN q) (e : mkS E st ns = some t) :
    ∃ u ∈ nextN s, (s.1 ≤ u.1 ∧ s.2.1 ≤ u.2.1 ∧ s.2.2 ≤ u.2.2) ∧ SzT (weigh W st) ((wayW W st).getD 0) u t := by
  obtain ⟨p, l, c⟩ := s
  cases st with
  | free => exact absurd rfl hf
  | on x =>
    match ns, hn, e with
    | [], _, e => cases e
    | _ :: _ :: _, _, e => cases e
    | [a], hn, e =>
      have e : (match thg E x with | some (.ln _ b w) => some (Thg.pt (goneP b w a)) | _ => none) = some t := e
      cases q : thg E x with
      | none => rw [q] at e; cases e
      | some o =>
        rw [q] at e
        cases o with
        | pt z => cases e
        | ci m z => cases e
        | ln n b w =>
          cases e
          obtain ⟨l0, h1, h2⟩ := h x _ q
          have l0 : 0 < l := l0
          refine ⟨(p + 2 * l + 3, l, c), by simp [nextN, l0], ⟨by dsimp only; omega, Nat.le_refl _, Nat.le_refl _⟩, ?_⟩
          show PtN (64 * (wOf W x + yOf W x + 2) + (p + 2 * l + 3)) (goneP b w a)
          exact (pt_on h2 h1 (hn a (by simp))).mono (by dsimp only; omega)
  | round x =>
    match ns, hn, e with
    | [], _, e => cases e
    | _ :: _ :: _, _, e => cases e
    | [a], hn, e =>
      have e : (match thg E x with | some (.ci m p) => some (Thg.pt (onP m p a)) | _ => none) = some t := e
      cases q : thg E x with
      | none => rw [q] at e; cases e
      | some o =>
        rw [q] at e
        cases o with
        | pt z => cases e
        | ln n b w => cases e
        | ci m z =>
          cases e
          obtain ⟨l0, h1, h2⟩ := h x _ q
          have l0 : 0 < c := l0
          refine ⟨(max p c, l, c), by simp [nextN, l0], ⟨by dsimp only; omega, Nat.le_refl _, Nat.le_refl _⟩, ?_⟩
          show PtN (64 * (wOf W x + yOf W x + 2) + max p c) (onP m z a)
          exact (pt_round h1 (hn a (by simp))).mono (by dsimp only; omega)
  | turn x y k =>
    obtain ⟨k1, k3⟩ := hk x y k rfl
    have e : (match thg E x, thg E y with | some (.pt a), some (.pt b) => some (Thg.pt (turnP a b k)) | _, _ => none) = some t := e
    cases q : thg E x with
    | none => rw [q] at e; cases e
    | some o =>
      rw [q] at e
      cases o with
      | ln n b w => cases e
      | ci m z => cases e
      | pt a =>
        cases r : thg E y with
        | none => rw [r] at e; cases e
        | some o =>
          rw [r] at e
          cases o with
          | ln n b w => cases e
          | ci m z => cases e
          | pt b =>
            cases e
            refine ⟨(2 * p + 2, l, c), by simp [nextN], ⟨by dsimp only; omega, Nat.le_refl _, Nat.le_refl _⟩, ?_⟩
            show PtN (64 * (wOf W x + wOf W y) + (2 * p + 2)) (turnP a b k)
            exact (pt_turn k1 k3 (h x _ q) (h y _ r)).mono (by dsimp only; omega)
  | other x y z =>
    have e : (match thg E x, thg E y, thg E z with | some (.ln n _ _), some (.ci m _), some (.pt a) => some (Thg.pt (othP n m a)) | _, _, _ => none) = some t := e
    cases q : thg E x with
    | none => rw [q] at e; cases e
    | some o =>
      rw [q] at e
      cases o with
      | pt a => cases e
      | ci m z => cases e
      | ln n b w =>
        cases r : thg E y with
        | none => rw [r] at e; cases e
        | some o =>
          rw [r] at e
          cases o with
          | pt a => cases e
          | ln n b w => cases e
          | ci m d =>
            cases g : thg E z with
            | none => rw [g] at e; cases e
            | some o =>
              rw [g] at e
              cases o with
              | ln n b w => cases e
              | ci m z => cases e
              | pt a =>
                cases e
                obtain ⟨l0, h1, _⟩ := h x _ q
                obtain ⟨c0, h2, _⟩ := h y _ r
                have l0 : 0 < l := l0
                have c0 : 0 < c := c0
                refine ⟨(p + c + 2 * l + 5, l, c), by simp [nextN, l0, c0], ⟨by dsimp only; omega, Nat.le_refl _, Nat.le_refl _⟩, ?_⟩
                show PtN (64 * (2 * wOf W x + wOf W y + wOf W z) + (p + c + 2 * l + 5)) (othP n m a)
                exact (pt_oth (h z _ g) h2 h1).mono (by dsimp only; omega)
  | two b x y =>
    have e : (match thg E x, thg E y with | some s, some t => mkB b s t | _, _ => none) = some t := e
    cases q : thg E x with
    | none => rw [q] at e; cases e
    | some o =>
      cases r : thg E y with
      | none => rw [q, r] at e; cases e
      | some o2 =>
        rw [q, r] at e
        have e : mkB b o o2 = some t := e
        have hx := h x _ q
        have hy := h y _ r
        cases b with
        | meet =>
          cases o with
          | pt _ => cases o2 <;> cases e
          | ci _ _ => cases o2 <;> cases e
          | ln n1 b1 w1 =>
            cases o2 with
            | pt _ => cases e
            | ci _ _ => cases e
            | ln n2 b2 w2 =>
              have e : (if crsP (dirL n1) (dirL n2) = 0 then none else some (Thg.pt (meetP n1 n2))) = some t := e
              by_cases c0 : crsP (dirL n1) (dirL n2) = 0
              · rw [if_pos c0] at e
                cases e
              · rw [if_neg c0] at e
                cases e
                obtain ⟨l0, h1, _⟩ := hx
                obtain ⟨_, h2, _⟩ := hy
                have l0 : 0 < l := l0
                refine ⟨(p + 2 * l + 3, l, c), by simp [nextN, l0], ⟨by dsimp only; omega, Nat.le_refl _, Nat.le_refl _⟩, ?_⟩
                show PtN (64 * (wOf W x + wOf W y) + (p + 2 * l + 3)) (meetP n1 n2)
                exact (pt_meet h1 h2 c0).mono (by dsimp only; omega)
        | middle =>
          cases o with
          | ln _ _ _ => cases o2 <;> cases e
          | ci _ _ => cases o2 <;> cases e
          | pt a =>
            cases o2 with
            | ln _ _ _ => cases e
            | ci _ _ => cases e
            | pt d =>
              cases e
              refine ⟨(2 * p + 2, l, c), by simp [nextN], ⟨by dsimp only; omega, Nat.le_refl _, Nat.le_refl _⟩, ?_⟩
              show PtN (64 * (wOf W x + wOf W y) + (2 * p + 2)) (midP a d)
              exact (pt_mid hx hy).mono (by dsimp only; omega)
        | foot =>
          cases o with
          | ln _ _ _ => cases o2 <;> cases e
          | ci _ _ => cases o2 <;> cases e
          | pt a =>
            cases o2 with
            | pt _ => cases e
            | ci _ _ => cases e
            | ln n1 b1 w1 =>
              cases e
              obtain ⟨l0, h1, _⟩ := hy
              have l0 : 0 < l := l0
              refine ⟨(p + 2 * l + 3, l, c), by simp [nextN, l0], ⟨by dsimp only; omega, Nat.le_refl _, Nat.le_refl _⟩, ?_⟩
              show PtN (64 * (wOf W x + 2 * wOf W y) + (p + 2 * l + 3)) (footP a n1)
              exact (pt_foot hx h1).mono (by dsimp only; omega)
        | mirror =>
          cases o with
          | ln _ _ _ => cases o2 <;> cases e
          | ci _ _ => cases o2 <;> cases e
          | pt a =>
            cases o2 with
            | pt _ => cases e
            | ci _ _ => cases e
            | ln n1 b1 w1 =>
              cases e
              obtain ⟨l0, h1, _⟩ := hy
              have l0 : 0 < l := l0
              refine ⟨(p + 2 * l + 3, l, c), by simp [nextN, l0], ⟨by dsimp only; omega, Nat.le_refl _, Nat.le_refl _⟩, ?_⟩
              show PtN (64 * (wOf W x + 2 * wOf W y) + (p + 2 * l + 3)) (mirP a n1)
              exact (pt_mirr hx h1).mono (by dsimp only; omega)
        | line =>
          cases o with
          | ln _ _ _ => cases o2 <;> cases e
          | ci _ _ => cases o2 <;> cases e
          | pt a =>
            cases o2 with
            | ln _ _ _ => cases e
            | ci _ _ => cases e
            | pt d =>
              have e : (if a = d then none else some (Thg.ln (throughL a d) a (wayB a d))) = some t := e
              by_cases c0 : a = d
              · rw [if_pos c0] at e
                cases e
              · rw [if_neg c0] at e
                cases e
                refine ⟨(p, max l (2 * p + 1), c), by simp [nextN], ⟨Nat.le_refl _, by dsimp only; omega, Nat.le_refl _⟩, ?_⟩
                show 0 < max l (2 * p + 1) ∧ LnD (64 * (wOf W x + wOf W y) + max l (2 * p + 1)) (64 * (wOf W x + wOf W y) + max l (2 * p + 1)) (throughL a d) (wayB a d) ∧ PtN (64 * (wOf W x + wOf W y) + p) a
                exact ⟨by omega, (ln_line hx hy c0).mono (by dsimp only; omega) (by dsimp only; omega), PtN.mono hx (by dsimp only; omega)⟩
        | along =>
          cases o with
          | ln _ _ _ => cases o2 <;> cases e
          | ci _ _ => cases o2 <;> cases e
          | pt a =>
            cases o2 with
            | pt _ => cases e
            | ci _ _ => cases e
            | ln n1 b1 w1 =>
              cases e
              obtain ⟨l0, h1, _⟩ := hy
              have l0 : 0 < l := l0
              refine ⟨(p, p + l + 1, c), by simp [nextN, l0], ⟨Nat.le_refl _, by dsimp only; omega, Nat.le_refl _⟩, ?_⟩
              show 0 < p + l + 1 ∧ LnD (64 * (wOf W x + yOf W y) + (p + l + 1)) (64 * yOf W y + (p + l + 1)) (alongL a n1) w1 ∧ PtN (64 * (wOf W x + yOf W y) + p) a
              exact ⟨by omega, (ln_along hx h1).mono (by dsimp only; omega) (by dsimp only; omega), PtN.mono hx (by dsimp only; omega)⟩
        | upright =>
          cases o with
          | ln _ _ _ => cases o2 <;> cases e
          | ci _ _ => cases o2 <;> cases e
          | pt a =>
            cases o2 with
            | pt _ => cases e
            | ci _ _ => cases e
            | ln n1 b1 w1 =>
              cases e
              obtain ⟨l0, h1, _⟩ := hy
              have l0 : 0 < l := l0
              refine ⟨(p, p + l + 1, c), by simp [nextN, l0], ⟨Nat.le_refl _, by dsimp only; omega, Nat.le_refl _⟩, ?_⟩
              show 0 < p + l + 1 ∧ LnD (64 * (wOf W x + yOf W y) + (p + l + 1)) (64 * yOf W y + (p + l + 1)) (uprightL a n1) (leftP w1) ∧ PtN (64 * (wOf W x + yOf W y) + p) a
              exact ⟨by omega, (ln_upright hx h1).mono (by dsimp only; omega) (by dsimp only; omega), PtN.mono hx (by dsimp only; omega)⟩
        | circle =>
          cases o with
          | ln _ _ _ => cases o2 <;> cases e
          | ci _ _ => cases o2 <;> cases e
          | pt a =>
            cases o2 with
            | ln _ _ _ => cases e
            | ci _ _ => cases e
            | pt d =>
              have e : (if a = d then none else some (Thg.ci a d)) = some t := e
              by_cases c0 : a = d
              · rw [if_pos c0] at e
                cases e
              · rw [if_neg c0] at e
                cases e
                refine ⟨(p, l, max c (2 * p + 1)), by simp [nextN], ⟨Nat.le_refl _, Nat.le_refl _, by dsimp only; omega⟩, ?_⟩
                show 0 < max c (2 * p + 1) ∧ CiN (64 * (wOf W x + wOf W y) + max c (2 * p + 1)) a d ∧ PtN (64 * (wOf W x + wOf W y) + p) a ∧ PtN (64 * (wOf W x + wOf W y) + p) d
                exact ⟨by omega, (ci_circ hx hy).mono (by dsimp only; omega), PtN.mono hx (by dsimp only; omega), PtN.mono hy (by dsimp only; omega)⟩
end Ph
set_option linter.all false
set_option maxRecDepth 100000
set_option maxHeartbeats 8000000
namespace Ph
open PySem PySem.Spec PyProof.Rows L2 LamX
theorem wts_take {pl : Pl} {i : Nat} {x : Str} {s : Stp} (hp : pl[i]? = some (x, s)) : wts (pl.take (i + 1)) = addW (wts (pl.take i)) (x, s) := by
  obtain ⟨lt, e⟩ := List.getElem?_eq_some_iff.mp hp
  rw [List.take_succ_eq_append_getElem lt, e, wts_snoc]
theorem wts_tlen {pl : Pl} : ∀ i, i ≤ pl.length → (wts (pl.take i)).length = i
  | 0, _ => rfl
  | i + 1, hi => by
    obtain ⟨x, s, hp⟩ : ∃ x s, pl[i]? = some (x, s) := ⟨_, _, List.getElem?_eq_getElem (by omega)⟩
    rw [wts_take hp]
    show (wts (pl.take i)).length + 1 = i + 1
    rw [wts_tlen i (by omega)]
theorem wOf_add {W : Wts} {x y : Str} {s : Stp} : wOf (addW W (x, s)) y = if y = x then weigh W s else wOf W y := by
  unfold wOf
  show ((if y = x then some (weigh W s, wayW W s) else wLook W y).map (·.1)).getD 0 = _
  by_cases e : y = x
  · rw [if_pos e, if_pos e]
    rfl
  · rw [if_neg e, if_neg e]
theorem yOf_add {W : Wts} {x y : Str} {s : Stp} : yOf (addW W (x, s)) y = if y = x then (wayW W s).getD 0 else yOf W y := by
  unfold yOf
  show ((if y = x then some (weigh W s, wayW W s) else wLook W y).bind (·.2)).getD 0 = _
  by_cases e : y = x
  · rw [if_pos e, if_pos e]
    rfl
  · rw [if_neg e, if_neg e]
/-- the numbers of a step, in the likeness -/
def NumsOk (i : Nat) (s : Stp) (ns : List Rat) : Prop := (s = .free → ∃ z : P2, ns = [z.1, z.2] ∧ PtN (if i < 2 then 0 else 64) z) ∧ (s ≠ .free → ∀ q ∈ ns, TqN q)
theorem sz_all {pl : Pl} {zs : List Rat} (g : GenOk pl) (hl : pl.length ≤ 12) (hn : ∀ i x s, pl[i]? = some (x, s) → NumsOk i s ((stAt pl zs i).2.take s.takes)) :
    ∀ i, i ≤ pl.length → ∃ u ∈ frontN (i - 2), SzE (wts (pl.take i)) (stAt pl zs i).1 u
  | 0, _ => ⟨(0, 0, 0), by decide, fun y t h => by cases h⟩
  | i + 1, hi => by
    obtain ⟨u, hu, ih⟩ := sz_all g hl hn i (by omega)
    obtain ⟨x, s, hp⟩ : ∃ x s, pl[i]? = some (x, s) := ⟨_, _, List.getElem?_eq_getElem (by omega)⟩
    obtain ⟨n1, n2⟩ := hn i x s hp
    have wl := wts_tlen (pl := pl) i (by omega)
    -- what the new state must hold
    have fin : ∀ v : Nat × Nat × Nat, (u.1 ≤ v.1 ∧ u.2.1 ≤ v.2.1 ∧ u.2.2 ≤ v.2.2) → (∀ t, valAt pl zs i s = some t → SzT (weigh (wts (pl.take i)) s) ((wayW (wts (pl.take i)) s).getD 0) v t) → SzE (wts (pl.take (i + 1))) (stAt pl zs (i + 1)).1 v := fun v l k y t h => by
      rw [stAt_succ hp, thg_cons] at h
      rw [wts_take hp, wOf_add, yOf_add]
      by_cases e : y = x
      · rw [if_pos e] at h
        rw [if_pos e, if_pos e]
        exact k t h
      · rw [if_neg e] at h
        rw [if_neg e, if_neg e]
        exact (ih y t h).mono l
    by_cases sf : s = .free
    · subst sf
      obtain ⟨z, ez, hz⟩ := n1 rfl
      have ev : valAt pl zs i .free = some (.pt z) := by
        unfold valAt
        rw [ez]
        rfl
      have keep : ∀ v : Nat × Nat × Nat, (u.1 ≤ v.1 ∧ u.2.1 ≤ v.2.1 ∧ u.2.2 ≤ v.2.2) → SzE (wts (pl.take (i + 1))) (stAt pl zs (i + 1)).1 v := fun v l => fin v l fun t h => by
        rw [ev] at h
        cases h
        show PtN (64 * (if (wts (pl.take i)).length > 1 then 1 else 0) + v.1) z
        rw [wl]
        by_cases i2 : i < 2
        · rw [if_pos i2] at hz
          exact hz.mono (Nat.zero_le _)
        · rw [if_neg i2] at hz
          rw [if_pos (by omega)]
          exact hz.mono (by omega)
      by_cases i2 : i < 2
      · have e1 : i + 1 - 2 = i - 2 := by omega
        rw [e1]
        exact ⟨u, hu, keep u ⟨Nat.le_refl _, Nat.le_refl _, Nat.le_refl _⟩⟩
      · obtain ⟨v, hv, l⟩ := front_step (n := i - 2) (by omega) hu (t := u) (by simp [nextN])
        have e1 : i + 1 - 2 = i - 2 + 1 := by omega
        rw [e1]
        exact ⟨v, hv, keep v l⟩
    · have i2 : ¬ i < 2 := fun z => sf (g.free2 i x s z hp)
      have e1 : i + 1 - 2 = i - 2 + 1 := by omega
      rw [e1]
      have hk : ∀ p q k, s = .turn p q k → 1 ≤ k ∧ k ≤ 3 := fun p q k e => by
        subst e
        exact (g.good i x _ hp).1.2.2
      cases ev : valAt pl zs i s with
      | none =>
        obtain ⟨v, hv, l⟩ := front_step (n := i - 2) (by omega) hu (t := u) (by simp [nextN])
        exact ⟨v, hv, fin v l fun t h => by rw [ev] at h; cases h⟩
      | some t =>
        obtain ⟨v1, h1, h2, h3⟩ := sz_step ih hk sf (n2 sf) ev
        obtain ⟨v, hv, l⟩ := front_step (n := i - 2) (by omega) hu h1
        refine ⟨v, hv, fin v ⟨Nat.le_trans h2.1 l.1, Nat.le_trans h2.2.1 l.2.1, Nat.le_trans h2.2.2 l.2.2⟩ fun t2 h => ?_⟩
        rw [ev] at h
        cases h
        exact h3.mono l
/-- every thing of the drawing in the likeness -/
theorem sz_val {pl : Pl} {zs : List Rat} (g : GenOk pl) (hl : pl.length ≤ 12) (hn : ∀ i x s, pl[i]? = some (x, s) → NumsOk i s ((stAt pl zs i).2.take s.takes)) {i : Nat} (hi : i ≤ pl.length) {y : Str} {t : Thg} (h : thg (stAt pl zs i).1 y = some t) :
    ∃ w v : Nat, w ≤ 12 ∧ SzT w v (4530, 4061, 4061) t := by
  obtain ⟨u, hu, hz⟩ := sz_all g hl hn i hi
  have top := front_le (show i - 2 ≤ 10 by omega) hu
  obtain ⟨j, s, hj, hp, _⟩ := eL_is hi (thg_some h)
  refine ⟨_, _, ?_, (hz y t h).mono top⟩
  -- the weight is the step's own
  have : ∀ n, n ≤ pl.length → j < n → wOf (wts (pl.take n)) y ≤ 12 := by
    intro n
    induction n with
    | zero => intro _ h; omega
    | succ n ih =>
      intro hn1 hj1
      obtain ⟨x, r, hq⟩ : ∃ x s, pl[n]? = some (x, s) := ⟨_, _, List.getElem?_eq_getElem (by omega)⟩
      rw [wts_take hq, wOf_add]
      by_cases e : y = x
      · rw [if_pos e]
        exact (g.good n x r hq).2
      · rw [if_neg e]
        have ne : j ≠ n := fun z => by
          subst z
          rw [hp] at hq
          cases hq
          exact e rfl
        exact ih (by omega) (by omega)
  exact this i hi hj
end Ph
set_option linter.all false
set_option maxRecDepth 100000
set_option maxHeartbeats 8000000
set_option exponentiation.threshold 20000
namespace Ph
open PySem PySem.Spec PyProof.Rows L2 LamX
/-! ### the likeness of a plan's first two points -/
def invS (a m : P2) : Sim := ⟨(-(m.1 * a.1 + m.2 * a.2) / (m.1 * m.1 + m.2 * m.2), -(m.1 * a.2 - m.2 * a.1) / (m.1 * m.1 + m.2 * m.2)), (m.1 / (m.1 * m.1 + m.2 * m.2), -m.2 / (m.1 * m.1 + m.2 * m.2)), 1⟩
abbrev fwdS (a m : P2) : Sim := ⟨a, m, 1⟩
section
variable {a m : P2}
theorem fwd_ok (h : NzV m) : (fwdS a m).Ok := ⟨by show (1 : Rat) * 1 = 1; decide +kernel, nz_dot h⟩
theorem inv_ok (h : NzV m) : (invS a m).Ok := by
  have n : m.1 * m.1 + m.2 * m.2 ≠ 0 := nz_dot h
  refine ⟨by show (1 : Rat) * 1 = 1; decide +kernel, ?_⟩
  have e : (invS a m).D = 1 / (m.1 * m.1 + m.2 * m.2) := by
    simp only [Sim.D, invS]
    grind
  rw [e]
  grind
theorem inv_ph (h : NzV m) (f : P2) : (invS a m).ph f = ((m.1 * (f.1 - a.1) + m.2 * (f.2 - a.2)) / (m.1 * m.1 + m.2 * m.2), (m.1 * (f.2 - a.2) - m.2 * (f.1 - a.1)) / (m.1 * m.1 + m.2 * m.2)) := by
  have n : m.1 * m.1 + m.2 * m.2 ≠ 0 := nz_dot h
  refine P2.ext ?_ ?_ <;> simp only [Sim.ph, Sim.M, invS] <;> grind
theorem fwd_inv (h : NzV m) (f : P2) : (fwdS a m).ph ((invS a m).ph f) = f := by
  have n : m.1 * m.1 + m.2 * m.2 ≠ 0 := nz_dot h
  rw [inv_ph h]
  refine P2.ext ?_ ?_ <;> simp only [Sim.ph, Sim.M] <;> grind
theorem ns_back (h : NzV m) (odd : Str → Bool) : ∀ (pl : Pl) (qs : List Rat), qs.length = allN pl → nsS (fwdS a m) odd pl (nsS (invS a m) odd pl qs) = qs
  | [], qs, hq => (List.length_eq_zero_iff.mp hq).symm
  | (x, s) :: r, qs, hq => by
    rw [allN_cons] at hq
    have one : ∀ q : Rat, 1 * (1 * q) = q := fun q => by grind
    cases s with
    | free =>
      match qs, hq with
      | [], h => simp [Stp.takes] at h; omega
      | [_], h => simp [Stp.takes] at h; omega
      | c :: d :: q, hq =>
        have h2 : q.length = allN r := by simp [Stp.takes] at hq; omega
        show ((fwdS a m).ph ((invS a m).ph (c, d))).1 :: ((fwdS a m).ph ((invS a m).ph (c, d))).2 :: nsS (fwdS a m) odd r (nsS (invS a m) odd r q) = _
        rw [ns_back h odd r q h2, fwd_inv h]
    | round c =>
      match qs, hq with
      | [], h => simp [Stp.takes] at h; omega
      | d :: q, hq =>
        have h2 : q.length = allN r := by simp [Stp.takes] at hq; omega
        show (1 : Rat) * (1 * d) :: nsS (fwdS a m) odd r (nsS (invS a m) odd r q) = _
        rw [ns_back h odd r q h2, one]
    | on l =>
      match qs, hq with
      | [], h => simp [Stp.takes] at h; omega
      | d :: q, hq =>
        have h2 : q.length = allN r := by simp [Stp.takes] at hq; omega
        show sg (fwdS a m) odd l * (sg (invS a m) odd l * d) :: nsS (fwdS a m) odd r (nsS (invS a m) odd r q) = _
        have e1 : sg (fwdS a m) odd l = 1 := by unfold sg; split <;> rfl
        have e2 : sg (invS a m) odd l = 1 := by unfold sg; split <;> rfl
        rw [ns_back h odd r q h2, e1, e2, one]
    | turn p q k => simp [Stp.takes] at hq; exact ns_back h odd r qs hq
    | other l c p => simp [Stp.takes] at hq; exact ns_back h odd r qs hq
    | two b u v => simp [Stp.takes] at hq; exact ns_back h odd r qs hq
theorem ns_len {S : Sim} (odd : Str → Bool) : ∀ (pl : Pl) (qs : List Rat), qs.length = allN pl → (nsS S odd pl qs).length = allN pl
  | [], qs, hq => rfl
  | (x, s) :: r, qs, hq => by
    rw [allN_cons] at hq ⊢
    cases s with
    | free =>
      match qs, hq with
      | [], h => simp [Stp.takes] at h; omega
      | [_], h => simp [Stp.takes] at h; omega
      | c :: d :: q, hq =>
        have h2 : q.length = allN r := by simp [Stp.takes] at hq; omega
        show (_ :: _ :: nsS S odd r q).length = _
        simp only [List.length_cons, ns_len odd r q h2, Stp.takes]
        omega
    | round c =>
      match qs, hq with
      | [], h => simp [Stp.takes] at h; omega
      | d :: q, hq =>
        have h2 : q.length = allN r := by simp [Stp.takes] at hq; omega
        show (_ :: nsS S odd r q).length = _
        simp only [List.length_cons, ns_len odd r q h2, Stp.takes]
        omega
    | on l =>
      match qs, hq with
      | [], h => simp [Stp.takes] at h; omega
      | d :: q, hq =>
        have h2 : q.length = allN r := by simp [Stp.takes] at hq; omega
        show (_ :: nsS S odd r q).length = _
        simp only [List.length_cons, ns_len odd r q h2, Stp.takes]
        omega
    | turn p q k => simp [Stp.takes] at hq ⊢; exact ns_len odd r qs hq
    | other l c p => simp [Stp.takes] at hq ⊢; exact ns_len odd r qs hq
    | two b u v => simp [Stp.takes] at hq ⊢; exact ns_len odd r qs hq
end
/-! ### the given numbers -/
/-- a free point -/
def FrN (f : P2) : Prop := ∃ X Y Z : Int, Z ≠ 0 ∧ f = ((X : Rat) / Z, (Y : Rat) / Z) ∧ X.natAbs ≤ 11988 ∧ Y.natAbs ≤ 11988 ∧ Z.natAbs ≤ 144
/-- a way between two free points -/
def MwN (m : P2) : Prop := ∃ P Q R : Int, R ≠ 0 ∧ (P ≠ 0 ∨ Q ≠ 0) ∧ m = ((P : Rat) / R, (Q : Rat) / R) ∧ Bd 22 P ∧ Bd 22 Q ∧ Bd 15 R
theorem numb_q {q : Rat} (h : NumB q) : ∃ t b : Int, b ≠ 0 ∧ q = (t : Rat) / b ∧ t.natAbs ≤ 999 ∧ b.natAbs ≤ 12 := by
  obtain ⟨t, b, rfl, h1, h2, h3⟩ := h
  exact ⟨t, b, by omega, Rat.divInt_eq_div t b, h1, by omega⟩
theorem numb_tq {q : Rat} (h : NumB q) : TqN q := by
  obtain ⟨t, b, h1, h2, h3, h4⟩ := numb_q h
  exact ⟨t, b, h1, h2, Nat.le_trans h3 (by decide), Nat.le_trans h4 (by decide)⟩
theorem numb_sm {q : Rat} (h : NumB q) : Sm 64 q := by
  obtain ⟨t, b, rfl, h1, h2, h3⟩ := h
  exact (sm_of (n := 10) (by have : (2 : Nat) ^ 10 = 1024 := by decide
                             omega) (by have : (2 : Nat) ^ 10 = 1024 := by decide
                                        omega) h2).mono (by decide)
theorem nmul {p q : Int} {i j : Nat} (h : p.natAbs ≤ i) (g : q.natAbs ≤ j) : (p * q).natAbs ≤ i * j := by
  rw [Int.natAbs_mul]
  exact Nat.mul_le_mul h g
theorem free_n {x y : Rat} (hx : NumB x) (hy : NumB y) : FrN (x, y) := by
  obtain ⟨t, b, b0, rfl, h1, h2⟩ := numb_q hx
  obtain ⟨u, d, d0, rfl, h3, h4⟩ := numb_q hy
  have b1 := cast0 b0
  have d1 := cast0 d0
  refine ⟨t * d, u * b, b * d, mul_n0 b0 d0, P2.ext ?_ ?_, nmul h1 h4, nmul h3 h2, nmul h2 h4⟩
  · dsimp only; clear h1 h2 h3 h4 hx hy; grind
  · dsimp only; clear h1 h2 h3 h4 hx hy; grind
/-- the difference of two free points -/
theorem free_sub {f a : P2} (hf : FrN f) (ha : FrN a) : ∃ P Q R : Int, R ≠ 0 ∧ (f.1 - a.1 = (P : Rat) / R ∧ f.2 - a.2 = (Q : Rat) / R) ∧ Bd 22 P ∧ Bd 22 Q ∧ Bd 15 R := by
  obtain ⟨X, Y, Z, z0, rfl, h1, h2, h3⟩ := hf
  obtain ⟨F, G, V, v0, rfl, k1, k2, k3⟩ := ha
  have z1 := cast0 z0
  have v1 := cast0 v0
  have p22 : (2 : Nat) ^ 22 = 4194304 := by decide
  have p15 : (2 : Nat) ^ 15 = 32768 := by decide
  refine ⟨X * V - F * Z, Y * V - G * Z, Z * V, mul_n0 z0 v0, ⟨by dsimp only; clear h1 h2 h3 k1 k2 k3 p22 p15; grind, by dsimp only; clear h1 h2 h3 k1 k2 k3 p22 p15; grind⟩, ?_, ?_, ?_⟩
  · have e1 := nmul h1 k3
    have e2 := nmul k1 h3
    unfold Bd
    rw [p22]
    omega
  · have e1 := nmul h2 k3
    have e2 := nmul k2 h3
    unfold Bd
    rw [p22]
    omega
  · have e1 := nmul h3 k3
    unfold Bd
    rw [p15]
    omega
theorem mw_nz {m : P2} (h : MwN m) : NzV m := by
  obtain ⟨P, Q, R, r0, nz, rfl, _⟩ := h
  have r1 := cast0 r0
  rcases nz with h | h
  · have := cast0 h
    exact .inl (by show (P : Rat) / R ≠ 0; grind)
  · have := cast0 h
    exact .inr (by show (Q : Rat) / R ≠ 0; grind)
/-- a free point in the likeness -/
theorem inv_pt {a m f : P2} (ha : FrN a) (hm : MwN m) (hf : FrN f) : PtN 64 ((invS a m).ph f) := by
  have nz := mw_nz hm
  obtain ⟨P, Q, R, r0, pq, rfl, bP, bQ, bR⟩ := hm
  obtain ⟨F, G, V, v0, ⟨e1, e2⟩, bF, bG, bV⟩ := free_sub hf ha
  rw [inv_ph nz, e1, e2]
  have r1 := cast0 r0
  have v1 := cast0 v0
  have n0 := int_nn pq
  have n1 : (P : Rat) * P + Q * Q ≠ 0 := nz_dot (w := ((P : Rat), (Q : Rat))) (pq.elim (fun h => .inl (cast0 h)) fun h => .inr (cast0 h))
  have nd : (V : Rat) * ((P : Rat) * P + Q * Q) ≠ 0 := by grind
  refine ⟨R * (P * F + Q * G), R * (P * G - Q * F), V * (P * P + Q * Q), mul_n0 v0 n0, P2.ext ?_ ?_, ?_, ?_, ?_⟩
  · dsimp only; clear e1 e2 bP bQ bR bF bG bV; grind
  · dsimp only; clear e1 e2 bP bQ bR bF bG bV; grind
  · exact (bR.mul ((bP.mul bF).add (bQ.mul bG))).mono (by decide)
  · exact (bR.mul ((bP.mul bG).sub (bQ.mul bF))).mono (by decide)
  · exact (bV.mul ((bP.mul bP).add (bQ.mul bQ))).mono (by decide)
/-! ### back in the plane -/
theorem Bd.lt {k n : Nat} {x : Int} (h : Bd k x) (l : k + 1 ≤ n) : x.natAbs < 2 ^ n :=
  Nat.lt_of_lt_of_le (Nat.lt_of_le_of_lt h (by rw [Nat.pow_succ]; have := Nat.two_pow_pos k; omega : 2 ^ k < 2 ^ (k + 1))) (Nat.pow_le_pow_right (by decide) l)
theorem sm_div {X W : Int} {k n : Nat} (hX : Bd k X) (hW : Bd k W) (w0 : W ≠ 0) (l : k + 1 ≤ n) : Sm n ((X : Rat) / W) := by
  rw [← Rat.divInt_eq_div]
  exact sm_ofZ (hX.lt l) (hW.lt l) w0
theorem scale_sm {A B C : Int} {k n : Nat} (bA : Bd k A) (bB : Bd k B) (bC : Bd k C) (nz : A ≠ 0 ∨ B ≠ 0) (l : k + 1 ≤ n) : Sm n (scaleL (A : Rat) B C).1 ∧ Sm n (scaleL (A : Rat) B C).2.1 ∧ Sm n (scaleL (A : Rat) B C).2.2 := by
  unfold scaleL
  by_cases h : A = 0
  · have b0 : B ≠ 0 := nz.resolve_left fun z => z h
    rw [if_neg (fun z => by subst h; exact z rfl)]
    exact ⟨sm_div bA bB b0 l, sm_div bB bB b0 l, sm_div bC bB b0 l⟩
  · rw [if_pos (cast0 h)]
    exact ⟨sm_div bA bA h l, sm_div bB bA h l, sm_div bC bA h l⟩
section
variable {a m : P2} {k n : Nat}
theorem fr_bd {f : P2} (h : FrN f) : ∃ X Y Z : Int, Z ≠ 0 ∧ f = ((X : Rat) / Z, (Y : Rat) / Z) ∧ Bd 14 X ∧ Bd 14 Y ∧ Bd 8 Z := by
  obtain ⟨X, Y, Z, z0, e, h1, h2, h3⟩ := h
  exact ⟨X, Y, Z, z0, e, Nat.le_trans h1 (by decide), Nat.le_trans h2 (by decide), Nat.le_trans h3 (by decide)⟩
theorem pt_plane (ha : FrN a) (hm : MwN m) {z : P2} (hz : PtN k z) (l : k + 40 ≤ n) : Sm n ((fwdS a m).ph z).1 ∧ Sm n ((fwdS a m).ph z).2 := by
  obtain ⟨F, G, V, v0, rfl, bF, bG, bV⟩ := fr_bd ha
  obtain ⟨P, Q, R, r0, pq, rfl, bP, bQ, bR⟩ := hm
  obtain ⟨X, Y, W, w0, rfl, bX, bY, bW⟩ := hz
  have v1 := cast0 v0
  have r1 := cast0 r0
  have w1 := cast0 w0
  have bD : Bd (k + 39) (V * (R * W)) := (bV.mul (bR.mul bW)).mono (by omega)
  have d0 := mul_n0 v0 (mul_n0 r0 w0)
  have nd : (V : Rat) * (R * W) ≠ 0 := by grind
  have e1 : ((fwdS ((F : Rat) / V, (G : Rat) / V) ((P : Rat) / R, (Q : Rat) / R)).ph ((X : Rat) / W, (Y : Rat) / W)).1 = ((F * (R * W) + V * (P * X - Q * Y) : Int) : Rat) / ((V * (R * W) : Int) : Rat) := by
    simp only [Sim.ph, Sim.M]
    clear bF bG bV bP bQ bR bX bY bW bD
    grind
  have e2 : ((fwdS ((F : Rat) / V, (G : Rat) / V) ((P : Rat) / R, (Q : Rat) / R)).ph ((X : Rat) / W, (Y : Rat) / W)).2 = ((G * (R * W) + V * (Q * X + P * Y) : Int) : Rat) / ((V * (R * W) : Int) : Rat) := by
    simp only [Sim.ph, Sim.M]
    clear bF bG bV bP bQ bR bX bY bW bD
    grind
  rw [e1, e2]
  refine ⟨sm_div (k := k + 39) ?_ bD d0 (by omega), sm_div (k := k + 39) ?_ bD d0 (by omega)⟩
  · exact ((bF.mul (bR.mul bW)).mono (show _ ≤ k + 38 by omega)).add ((bV.mul ((bP.mul bX).sub (bQ.mul bY))).mono (by omega))
  · exact ((bG.mul (bR.mul bW)).mono (show _ ≤ k + 38 by omega)).add ((bV.mul ((bQ.mul bX).add (bP.mul bY))).mono (by omega))
theorem ln_plane (ha : FrN a) (hm : MwN m) {l : L3} {w : P2} {v : Nat} (hl : LnD k v l w) (le : k + 60 ≤ n) : Sm n ((fwdS a m).L l).1 ∧ Sm n ((fwdS a m).L l).2.1 ∧ Sm n ((fwdS a m).L l).2.2 := by
  have ok := fwd_ok (a := a) (mw_nz hm)
  have nzm := mw_nz hm
  obtain ⟨F, G, V, v0, rfl, bF, bG, bV⟩ := fr_bd ha
  obtain ⟨P, Q, R, r0, pq, rfl, bP, bQ, bR⟩ := hm
  obtain ⟨A, B, C, _, _, _, a0, rfl, ⟨bA, bB, bC⟩, _⟩ := hl
  have v1 := cast0 v0
  have r1 := cast0 r0
  have za : NzV ((A : Rat), (B : Rat)) := a0.elim (fun h => .inl (cast0 h)) fun h => .inr (cast0 h)
  have zM := M_nz ok za
  rw [L_of ok za]
  have q0 : ((R : Rat) * R * V) ≠ 0 := by grind
  rw [← scale_k q0]
  have e1 : (R : Rat) * R * V * ((fwdS ((F : Rat) / V, (G : Rat) / V) ((P : Rat) / R, (Q : Rat) / R)).M ((A : Rat), (B : Rat))).1 = ((R * V * (P * A - Q * B) : Int) : Rat) := by
    simp only [Sim.M]
    clear bF bG bV bP bQ bR bA bB bC
    grind
  have e2 : (R : Rat) * R * V * ((fwdS ((F : Rat) / V, (G : Rat) / V) ((P : Rat) / R, (Q : Rat) / R)).M ((A : Rat), (B : Rat))).2 = ((R * V * (Q * A + P * B) : Int) : Rat) := by
    simp only [Sim.M]
    clear bF bG bV bP bQ bR bA bB bC
    grind
  have e3 : (R : Rat) * R * V * ((fwdS ((F : Rat) / V, (G : Rat) / V) ((P : Rat) / R, (Q : Rat) / R)).D * (C : Rat) + dotP (fwdS ((F : Rat) / V, (G : Rat) / V) ((P : Rat) / R, (Q : Rat) / R)).a ((fwdS ((F : Rat) / V, (G : Rat) / V) ((P : Rat) / R, (Q : Rat) / R)).M ((A : Rat), (B : Rat)))) = ((V * (P * P + Q * Q) * C + R * (F * (P * A - Q * B) + G * (Q * A + P * B)) : Int) : Rat) := by
    simp only [Sim.M, Sim.D, dotP]
    clear bF bG bV bP bQ bR bA bB bC
    grind
  have nz : R * V * (P * A - Q * B) ≠ 0 ∨ R * V * (Q * A + P * B) ≠ 0 := by
    rcases zM with h | h
    · left
      intro z
      have : (R : Rat) * R * V * ((fwdS ((F : Rat) / V, (G : Rat) / V) ((P : Rat) / R, (Q : Rat) / R)).M ((A : Rat), (B : Rat))).1 = 0 := by rw [e1, z]; rfl
      exact h ((mul0 q0).mp this)
    · right
      intro z
      have : (R : Rat) * R * V * ((fwdS ((F : Rat) / V, (G : Rat) / V) ((P : Rat) / R, (Q : Rat) / R)).M ((A : Rat), (B : Rat))).2 = 0 := by rw [e2, z]; rfl
      exact h ((mul0 q0).mp this)
  rw [e1, e2, e3]
  have b1 : Bd (k + 23) (P * A - Q * B) := ((bP.mul bA).sub (bQ.mul bB)).mono (by omega)
  have b2 : Bd (k + 23) (Q * A + P * B) := ((bQ.mul bA).add (bP.mul bB)).mono (by omega)
  refine scale_sm (k := k + 59) (((bR.mul bV).mul b1).mono (by omega)) (((bR.mul bV).mul b2).mono (by omega)) ?_ nz (by omega)
  exact ((((bV.mul ((bP.mul bP).add (bQ.mul bQ))).mul bC)).mono (show _ ≤ k + 58 by omega)).add ((bR.mul ((bF.mul b1).add (bG.mul b2))).mono (by omega))
theorem ci_plane (ha : FrN a) (hm : MwN m) {c p : P2} (hc : CiN k c p) (l : 2 * k + 50 ≤ n) : Sm n (circC ((fwdS a m).ph c) ((fwdS a m).ph p)).2 := by
  have ok := fwd_ok (a := a) (mw_nz hm)
  obtain ⟨P, Q, R, r0, pq, rfl, bP, bQ, bR⟩ := hm
  obtain ⟨_, _, U, V, W, w0, _, ew, ⟨_, _, bW⟩, bU, bV⟩ := hc
  have r1 := cast0 r0
  have w1 := cast0 w0
  have e : (circC ((fwdS a ((P : Rat) / R, (Q : Rat) / R)).ph c) ((fwdS a ((P : Rat) / R, (Q : Rat) / R)).ph p)).2 = (((P * P + Q * Q) * (U * U + V * V) : Int) : Rat) / (((R * R) * (W * W) : Int) : Rat) := by
    show dotP (wayB _ _) (wayB _ _) = _
    rw [M_way, M_dot ok, ew]
    simp only [Sim.D, dotP]
    clear bP bQ bR bW bU bV
    have nd : (R : Rat) * R * (W * W) ≠ 0 := by grind
    grind
  rw [e]
  refine sm_div (k := 2 * k + 49) ?_ ?_ (mul_n0 (mul_n0 r0 r0) (mul_n0 w0 w0)) (by omega)
  · exact (((bP.mul bP).add (bQ.mul bQ)).mul ((bU.mul bU).add (bV.mul bV))).mono (by omega)
  · exact ((bR.mul bR).mul (bW.mul bW)).mono (by omega)
theorem sz_plane (ha : FrN a) (hm : MwN m) {w v : Nat} (hw : w ≤ 12) {t : Thg} (h : SzT w v (4530, 4061, 4061) t) (j : Rat) : ((fwdS a m).T j t).sm eSz ∧ ∀ q ∈ thQ (some ((fwdS a m).T j t)), Sm 12900 q := by
  have eE : eSz = 20000 := rfl
  cases t with
  | pt z =>
    have h : PtN (64 * w + 4530) z := h
    obtain ⟨h1, h2⟩ := pt_plane ha hm h (n := 12900) (by omega)
    refine ⟨⟨h1.mono (by decide), h2.mono (by decide)⟩, fun q hq => ?_⟩
    have hq : q ∈ [((fwdS a m).ph z).1, ((fwdS a m).ph z).2] := hq
    simp only [List.mem_cons, List.not_mem_nil, or_false] at hq
    rcases hq with rfl | rfl
    · exact h1
    · exact h2
  | ln l b u =>
    obtain ⟨_, h, _⟩ := h
    have h : LnD (64 * w + 4061) (64 * v + 4061) l u := h
    obtain ⟨h1, h2, h3⟩ := ln_plane ha hm h (n := 12900) (by omega)
    refine ⟨⟨h1.mono (by decide), h2.mono (by decide), h3.mono (by decide)⟩, fun q hq => ?_⟩
    have hq : q ∈ [((fwdS a m).L l).1, ((fwdS a m).L l).2.1, ((fwdS a m).L l).2.2] := hq
    simp only [List.mem_cons, List.not_mem_nil, or_false] at hq
    rcases hq with rfl | rfl | rfl
    · exact h1
    · exact h2
    · exact h3
  | ci c p =>
    obtain ⟨_, hc, h4, h5⟩ := h
    have hc : CiN (64 * w + 4061) c p := hc
    have h4 : PtN (64 * w + 4530) c := h4
    have h5 : PtN (64 * w + 4530) p := h5
    obtain ⟨h1, h2⟩ := pt_plane ha hm h4 (n := 12900) (by omega)
    obtain ⟨h6, h7⟩ := pt_plane ha hm h5 (n := 12900) (by omega)
    have h3 := ci_plane ha hm hc (n := 12900) (by omega)
    refine ⟨⟨⟨h1.mono (by decide), h2.mono (by decide)⟩, ⟨h6.mono (by decide), h7.mono (by decide)⟩⟩, fun q hq => ?_⟩
    have hq : q ∈ [((fwdS a m).ph c).1, ((fwdS a m).ph c).2, (circC ((fwdS a m).ph c) ((fwdS a m).ph p)).2] := hq
    simp only [List.mem_cons, List.not_mem_nil, or_false] at hq
    rcases hq with rfl | rfl | rfl
    · exact h1
    · exact h2
    · exact h3
end
theorem sm_lim {q : Rat} (h : Sm 12900 q) : LimQ q := ⟨Nat.lt_of_lt_of_le h.1 pow_lo, Nat.lt_of_lt_of_le h.2 pow_lo⟩
end Ph
set_option linter.all false
set_option maxRecDepth 100000
set_option maxHeartbeats 8000000
namespace Ph
open PySem PySem.Spec PyProof.Rows L2 LamX
theorem plS_false (pl : Pl) : plS false pl = pl := by
  unfold plS
  exact (List.map_congr_left fun s _ => rfl).trans (List.map_id pl)
theorem rest_mem {pl : Pl} {qs : List Rat} : ∀ i, i ≤ pl.length → ∀ q ∈ (stAt pl qs i).2, q ∈ qs
  | 0, _, q, h => h
  | i + 1, hi, q, h => by
    obtain ⟨x, s, hp⟩ : ∃ x s, pl[i]? = some (x, s) := ⟨_, _, List.getElem?_eq_getElem (by omega)⟩
    rw [stAt_succ hp] at h
    exact rest_mem i (by omega) q (List.mem_of_mem_drop h)
theorem drn_all : DrnAll := fun pl qs g l6 l12 hq hb => by
  obtain ⟨x0, s0, p0⟩ : ∃ x s, pl[0]? = some (x, s) := ⟨_, _, List.getElem?_eq_getElem (by omega)⟩
  obtain ⟨x1, s1, p1⟩ : ∃ x s, pl[1]? = some (x, s) := ⟨_, _, List.getElem?_eq_getElem (by omega)⟩
  obtain rfl := g.free2 0 x0 s0 (by decide) p0
  obtain rfl := g.free2 1 x1 s1 (by decide) p1
  -- the first two points
  have a0 := allN_drop p0
  have a1 := allN_drop p1
  rw [List.drop_zero] at a0
  have tf : Stp.takes .free = 2 := rfl
  rw [tf] at a0 a1
  have a4 : 4 ≤ allN pl := by
    have e : List.drop (0 + 1) pl = List.drop 1 pl := rfl
    rw [e] at a0
    omega
  obtain ⟨u1, u2, v1, v2, rest, rfl⟩ : ∃ u1 u2 v1 v2 rest, qs = u1 :: u2 :: v1 :: v2 :: rest := by
    match qs, hq with
    | [], h => simp at h; omega
    | [_], h => simp at h; omega
    | [_, _], h => simp at h; omega
    | [_, _, _], h => simp at h; omega
    | a :: b :: c :: d :: r, _ => exact ⟨a, b, c, d, r, rfl⟩
  generalize hqs : u1 :: u2 :: v1 :: v2 :: rest = qs at hq hb
  have f0 : FrN (u1, u2) := free_n (hb u1 (by simp [← hqs])) (hb u2 (by simp [← hqs]))
  have f1 : FrN (v1, v2) := free_n (hb v1 (by simp [← hqs])) (hb v2 (by simp [← hqs]))
  obtain ⟨m, hm, hf⟩ : ∃ m, MwN m ∧ PtN 0 ((invS (u1, u2) m).ph (v1, v2)) := by
    by_cases e : ((u1, u2) : P2) = (v1, v2)
    · have nz : NzV ((1, 0) : P2) := .inl (by decide +kernel)
      refine ⟨(1, 0), ⟨1, 0, 1, by decide, .inl (by decide), by decide +kernel, by unfold Bd; decide, by unfold Bd; decide, by unfold Bd; decide⟩, ?_⟩
      rw [← e, inv_ph nz]
      refine ⟨0, 0, 1, by decide, P2.ext ?_ ?_, by unfold Bd; decide, by unfold Bd; decide, by unfold Bd; decide⟩ <;> dsimp only <;> grind
    · have nw := way_nz e
      obtain ⟨P, Q, R, r0, ⟨e1, e2⟩, bP, bQ, bR⟩ := free_sub f1 f0
      have ew : wayB (u1, u2) (v1, v2) = ((P : Rat) / R, (Q : Rat) / R) := P2.ext e1 e2
      have pq : P ≠ 0 ∨ Q ≠ 0 := by
        rw [ew] at nw
        rcases nw with h | h
        · exact .inl fun z => h (by rw [z]; show (0 : Rat) / R = 0; grind)
        · exact .inr fun z => h (by rw [z]; show (0 : Rat) / R = 0; grind)
      refine ⟨wayB (u1, u2) (v1, v2), ⟨P, Q, R, r0, pq, ew, bP, bQ, bR⟩, ?_⟩
      have n := nz_dot nw
      rw [inv_ph nw]
      refine ⟨1, 0, 1, by decide, P2.ext ?_ ?_, by unfold Bd; decide, by unfold Bd; decide, by unfold Bd; decide⟩
      · simp only [wayB, dotP] at *
        clear hqs hq hb f0 f1 ew e1 e2 bP bQ bR
        grind
      · simp only [wayB, dotP] at *
        clear hqs hq hb f0 f1 ew e1 e2 bP bQ bR
        grind
  have nz := mw_nz hm
  have os := odds_of g
  have hk : ∀ x p q k, (x, Stp.turn p q k) ∈ pl → 1 ≤ k ∧ k ≤ 3 := fun x p q k h => by
    obtain ⟨i, hi⟩ := List.getElem?_of_mem h
    exact (g.good i x _ hi).1.2.2
  obtain ⟨zs, hz⟩ : ∃ zs, zs = nsS (invS (u1, u2) m) (oddOf pl) pl qs := ⟨_, rfl⟩
  have zl : zs.length = allN pl := by rw [hz]; exact ns_len _ _ _ hq
  have back : nsS (fwdS (u1, u2) m) (oddOf pl) pl zs = qs := by rw [hz]; exact ns_back nz _ _ _ hq
  have inv : ∀ i, i ≤ pl.length → stAt pl zs i = (evS (invS (u1, u2) m) (oddOf pl) (stAt pl qs i).1, nsS (invS (u1, u2) m) (oddOf pl) (pl.drop i) (stAt pl qs i).2) := fun i hi => by
    have w := stAt_T (S := invS (u1, u2) m) (inv_ok nz) (r := false) (show (1 : Rat) = if (false : Bool) = true then -1 else 1 from rfl) os hk hq i hi
    rw [plS_false, ← hz] at w
    exact w
  have fwd : ∀ i, i ≤ pl.length → (stAt pl qs i).1 = evS (fwdS (u1, u2) m) (oddOf pl) (stAt pl zs i).1 := fun i hi => by
    have w := stAt_T (S := fwdS (u1, u2) m) (fwd_ok nz) (r := false) (show (1 : Rat) = if (false : Bool) = true then -1 else 1 from rfl) os hk zl i hi
    rw [plS_false, back] at w
    rw [w]
  have nums : ∀ i x s, pl[i]? = some (x, s) → NumsOk i s ((stAt pl zs i).2.take s.takes) := fun i x s hp => by
    obtain ⟨lt, e⟩ := List.getElem?_eq_some_iff.mp hp
    have ln := stAt_len2 hq i (Nat.le_of_lt lt)
    rw [allN_drop hp] at ln
    have mem := rest_mem (pl := pl) (qs := qs) i (Nat.le_of_lt lt)
    have first : i = 0 → (stAt pl qs i).2 = qs := fun z => by subst z; rfl
    have second : i = 1 → (stAt pl qs i).2 = qs.drop 2 := fun z => by
      subst z
      rw [stAt_succ p0]
      rfl
    rw [inv i (Nat.le_of_lt lt), List.drop_eq_getElem_cons lt, e]
    dsimp only
    rw [(nsS_cut (by omega)).1]
    generalize (stAt pl qs i).2 = rs at ln mem first second
    have sg1 : ∀ l, sg (invS (u1, u2) m) (oddOf pl) l = 1 := fun l => by unfold sg; split <;> rfl
    cases s with
    | free =>
      refine ⟨fun _ => ?_, fun h => absurd rfl h⟩
      obtain ⟨c, d, r, rfl⟩ : ∃ a b r, rs = a :: b :: r := match rs, ln with
        | a :: b :: r, _ => ⟨a, b, r, rfl⟩
        | [_], h => by simp [Stp.takes] at h; omega
        | [], h => by simp [Stp.takes] at h; omega
      refine ⟨(invS (u1, u2) m).ph (c, d), rfl, ?_⟩
      by_cases i2 : i < 2
      · rw [if_pos i2]
        rcases (show i = 0 ∨ i = 1 by omega) with z | z
        · have := first z
          rw [← hqs] at this
          cases this
          rw [inv_ph nz]
          have n := nz_dot nz
          refine ⟨0, 0, 1, by decide, P2.ext ?_ ?_, by unfold Bd; decide, by unfold Bd; decide, by unfold Bd; decide⟩
          · dsimp only
            clear hqs hq hb f0 f1 hf hz zl back inv fwd mem ln first second
            grind
          · dsimp only
            clear hqs hq hb f0 f1 hf hz zl back inv fwd mem ln first second
            grind
        · have := second z
          rw [← hqs] at this
          have : c :: d :: r = v1 :: v2 :: rest := this
          cases this
          exact hf
      · rw [if_neg i2]
        exact inv_pt f0 hm (free_n (hb c (mem c (by simp))) (hb d (mem d (by simp))))
    | on l =>
      refine ⟨(fun h => by cases h), fun _ q hq2 => ?_⟩
      obtain ⟨c, r, rfl⟩ : ∃ a r, rs = a :: r := match rs, ln with
        | a :: r, _ => ⟨a, r, rfl⟩
        | [], h => by simp [Stp.takes] at h; omega
      have hq2 : q ∈ [sg (invS (u1, u2) m) (oddOf pl) l * c] := hq2
      rw [sg1, Rat.one_mul, List.mem_singleton] at hq2
      subst hq2
      exact numb_tq (hb q (mem q (by simp)))
    | round l =>
      refine ⟨(fun h => by cases h), fun _ q hq2 => ?_⟩
      obtain ⟨c, r, rfl⟩ : ∃ a r, rs = a :: r := match rs, ln with
        | a :: r, _ => ⟨a, r, rfl⟩
        | [], h => by simp [Stp.takes] at h; omega
      have hq2 : q ∈ [(1 : Rat) * c] := hq2
      rw [Rat.one_mul, List.mem_singleton] at hq2
      subst hq2
      exact numb_tq (hb q (mem q (by simp)))
    | turn p q k => exact ⟨(fun h => by cases h), fun _ q hq2 => by cases hq2⟩
    | other l c p => exact ⟨(fun h => by cases h), fun _ q hq2 => by cases hq2⟩
    | two b u v => exact ⟨(fun h => by cases h), fun _ q hq2 => by cases hq2⟩
  have size : ∀ i, i ≤ pl.length → ∀ y t, thg (stAt pl qs i).1 y = some t → t.sm eSz ∧ ∀ q ∈ thQ (some t), Sm 12900 q := fun i hi y t h => by
    rw [fwd i hi, evS_t] at h
    cases e : thg (stAt pl zs i).1 y with
    | none =>
      rw [e] at h
      cases h
    | some t0 =>
      rw [e] at h
      cases h
      obtain ⟨w, v, hw, hs⟩ := sz_val g l12 nums hi e
      exact sz_plane f0 hm hw hs _
  refine drn_of g l12 hq (fun q h => numb_sm (hb q h)) (fun i hi x t h => (size i hi x t h).1) fun j x s hp q h => ?_
  have lt := (List.getElem?_eq_some_iff.mp hp).1
  cases e : valAt pl qs j s with
  | none =>
    rw [e] at h
    cases h
  | some t =>
    have ht : thg (stAt pl qs (j + 1)).1 x = some t := by
      rw [stAt_succ hp, thg_cons, if_pos rfl]
      exact e
    rw [e] at h
    exact sm_lim ((size (j + 1) lt x t ht).2 q h)
/-- the plain law -/
theorem facts_all : FactsAll := facts_of drn_all
end Ph
set_option linter.all false
set_option maxRecDepth 100000
set_option maxHeartbeats 8000000
namespace Ph
open PySem PySem.Spec PyProof.Rows L2 LamX
/-! ### what the head tells of the heap, and the law's defs from it -/
def fnList : List (Str × Stmt) := [(("is_whole" : Str), s_is_whole), (("lowest" : Str), s_lowest), (("whole_root" : Str), s_whole_root), (("sign_in" : Str), s_sign_in), (("sum_of" : Str), s_sum_of), (("product_of" : Str), s_product_of), (("are_right" : Str), s_are_right), (("quotient" : Str), s_quotient), (("opposite" : Str), s_opposite), (("shared_radix" : Str), s_shared_radix), (("made_of" : Str), s_made_of), (("against" : Str), s_against), (("way_between" : Str), s_way_between), (("dot" : Str), s_dot), (("cross" : Str), s_cross), (("leftwards" : Str), s_leftwards), (("gone" : Str), s_gone), (("scaled_line" : Str), s_scaled_line), (("line_by" : Str), s_line_by), (("line_through" : Str), s_line_through), (("line_along" : Str), s_line_along), (("line_upright" : Str), s_line_upright), (("lines_meet" : Str), s_lines_meet), (("middle_of" : Str), s_middle_of), (("far_from" : Str), s_far_from), (("foot_of" : Str), s_foot_of), (("mirror_of" : Str), s_mirror_of), (("turned" : Str), s_turned), (("with_roots" : Str), s_with_roots), (("must_agree" : Str), s_must_agree), (("step_at" : Str), s_step_at), (("base_of" : Str), s_base_of), (("there_in" : Str), s_there_in), (("way_by" : Str), s_way_by), (("place_on" : Str), s_place_on), (("place_round" : Str), s_place_round), (("circle_through" : Str), s_circle_through), (("other_of" : Str), s_other_of), (("made_by" : Str), s_made_by), (("made" : Str), s_made), (("is_same" : Str), s_is_same), (("is_cross_nought" : Str), s_is_cross_nought), (("are_one" : Str), s_are_one), (("are_in_row" : Str), s_are_in_row), (("are_along" : Str), s_are_along), (("are_upright" : Str), s_are_upright), (("are_alike" : Str), s_are_alike), (("are_angles" : Str), s_are_angles), (("are_in_ring" : Str), s_are_in_ring), (("is_at" : Str), s_is_at), (("is_so_by" : Str), s_is_so_by), (("is_so" : Str), s_is_so), (("_law_deck" : Str), s__law_deck), (("_law_draw" : Str), s__law_draw), (("_law_pick" : Str), s__law_pick), (("_law_q" : Str), s__law_q), (("_law_names" : Str), s__law_names), (("_law_number" : Str), s__law_number), (("_law_weigh" : Str), s__law_weigh), (("_law_known" : Str), s__law_known), (("_law_two" : Str), s__law_two), (("_law_others" : Str), s__law_others), (("_law_some_step" : Str), s__law_some_step), (("_law_plan" : Str), s__law_plan), (("_law_many" : Str), s__law_many), (("_law_numbers" : Str), s__law_numbers), (("_law_hand" : Str), s__law_hand), (("_law_step_of" : Str), s__law_step_of), (("_law_shown" : Str), s__law_shown), (("_law_below" : Str), s__law_below), (("_law_odd_way" : Str), s__law_odd_way), (("_law_plan_led" : Str), s__law_plan_led), (("_law_numbers_led" : Str), s__law_numbers_led), (("_law_thing_led" : Str), s__law_thing_led), (("_law_claims" : Str), s__law_claims), (("law" : Str), s_law)]
structure Need (K : PySem.W.Frag) (w : World) (mg : Str → Option Value) (CE CN CR c : Addr) : Prop where
  B : Bl mg
  T : Tx K mg CE
  KS : KitS K
  KT : KitT K
  I : InitAt K CE
  plus : MtAt K CE "plus" "Exact.plus" s_plus
  minus : MtAt K CE "minus" "Exact.minus" s_minus
  times : MtAt K CE "times" "Exact.times" s_times
  by_ : MtAt K CE "by" "Exact.by" s_by
  sign : MtAt K CE "sign_of" "Exact.sign_of" s_sign_of
  N : Nx K mg CN
  X2 : Ex2 K mg CN CR
  Tk : Takes2 K w mg
  Wy : Ways K w mg
  Jd : Judges K w mg
  F : ∀ (i : Nat) (p : Str × Stmt), fnList[i]? = some p → FnAs K mg p.1 p.1 p.2
  root : FnAs K mg "root_of_exacts" "root_of" s_root_of_e
  drawn : FnCd K mg "drawn" s_drawn c
section
variable {P : Program} {w : World} {K : PySem.W.Frag} {mg : Str → Option Value} {base : Heap} {CE CN CR c tb : Addr}
theorem law_defs (Z : Need K w mg CE CN CR c) (seer : base.NoSeer) (tree : P.given.tree = none) (TB : TabB base mg c tb) : LawDefs P w K mg base CE [(tb, lamQ)] := by
  have B := Z.B
  have T := Z.T
  have c_is_whole : Cal P w K mg base CX0 1 "is_whole" ["thing"] spWhole := ok_is_whole B T (Z.F 0 (("is_whole" : Str), s_is_whole) rfl)
  have c_lowest : Cal P w K mg base CX0 34 "lowest" ["top", "bottom"] spLowest := ok_lowest B seer tree (Z.F 1 (("lowest" : Str), s_lowest) rfl)
  have c_whole_root : Cal P w K mg base CX0 1 "whole_root" ["number"] spWRoot := ok_whole_root (Z.F 2 (("whole_root" : Str), s_whole_root) rfl)
  have c_root := ok_root_of c_whole_root Z.root
  have c_sign_in : Cal P w K mg base CX0 1 "sign_in" ["number"] spSignIn := ok_sign_in (Z.F 3 (("sign_in" : Str), s_sign_in) rfl)
  have c_sum_of := ok_sum_of c_lowest (Z.F 4 (("sum_of" : Str), s_sum_of) rfl)
  have c_product_of := ok_product_of c_lowest (Z.F 5 (("product_of" : Str), s_product_of) rfl)
  have c_are_right := ok_are_right B c_is_whole (Z.F 6 (("are_right" : Str), s_are_right) rfl)
  have M : Mks P w K mg base CE := mks_of Z.I fun f fd FD => ok_init T c_are_right c_lowest c_root c_sum_of FD
  have c_quotient : Cal P w K mg base CX0 1 "quotient" ["number"] (spQuot CE) := ok_quotient T (Z.F 7 (("quotient" : Str), s_quotient) rfl)
  have c_opposite := ok_opposite M T (Z.F 8 (("opposite" : Str), s_opposite) rfl)
  have c_shared : Cal P w K mg base CX0 1 "shared_radix" ["one", "other"] (spShared CE) := ok_shared_radix T (Z.F 9 (("shared_radix" : Str), s_shared_radix) rfl)
  have c_made_of := ok_made_of M T c_sign_in (Z.F 10 (("made_of" : Str), s_made_of) rfl)
  have m_plus := ok_plus c_shared c_made_of c_sum_of c_quotient Z.plus
  have m_minus := ok_minus T m_plus c_opposite Z.minus
  have m_times := ok_times c_shared c_made_of c_sum_of c_product_of c_quotient Z.times
  have m_by := ok_by M T m_times c_made_of c_lowest Z.by_
  have m_sign := ok_sign_of T c_sign_in Z.sign
  have X : Mts P w K mg base CE := ⟨T, M, m_plus, m_minus, m_times, m_by, m_sign⟩
  have c_against := ok_against X (Z.F 11 (("against" : Str), s_against) rfl)
  have c_way := ok_way_between X (Z.F 12 (("way_between" : Str), s_way_between) rfl)
  have c_dot := ok_dot X (Z.F 13 (("dot" : Str), s_dot) rfl)
  have c_cross := ok_cross X (Z.F 14 (("cross" : Str), s_cross) rfl)
  have c_left := ok_leftwards c_against (Z.F 15 (("leftwards" : Str), s_leftwards) rfl)
  have c_gone := ok_gone X (Z.F 16 (("gone" : Str), s_gone) rfl)
  have c_scaled := ok_scaled_line X Z.N (Z.F 17 (("scaled_line" : Str), s_scaled_line) rfl)
  have c_lineby := ok_line_by c_dot c_scaled (Z.F 18 (("line_by" : Str), s_line_by) rfl)
  have c_far := ok_far_from X c_dot (Z.F 24 (("far_from" : Str), s_far_from) rfl)
  have c_roots : Cal P w K mg base CX0 5 "with_roots" ["thing"] (spRoots CE 4) := ok_with_roots T B (Z.F 28 (("with_roots" : Str), s_with_roots) rfl) 4
  have c_agree := ok_must_agree X c_roots (Z.F 29 (("must_agree" : Str), s_must_agree) rfl)
  have c_through := ok_line_through c_agree c_lineby c_left c_way (Z.F 19 (("line_through" : Str), s_line_through) rfl)
  have c_along := ok_line_along c_agree c_lineby (Z.F 20 (("line_along" : Str), s_line_along) rfl)
  have c_upright := ok_line_upright c_agree c_lineby c_left (Z.F 21 (("line_upright" : Str), s_line_upright) rfl)
  have c_meet := ok_lines_meet X c_agree c_cross (Z.F 22 (("lines_meet" : Str), s_lines_meet) rfl)
  have c_mid := ok_middle_of X c_agree c_gone c_way (Z.F 23 (("middle_of" : Str), s_middle_of) rfl)
  have c_foot := ok_foot_of c_agree c_gone c_far (Z.F 25 (("foot_of" : Str), s_foot_of) rfl)
  have c_mirror := ok_mirror_of X c_agree c_gone c_far (Z.F 26 (("mirror_of" : Str), s_mirror_of) rfl)
  have c_turned := ok_turned B X c_agree c_gone c_way c_left (Z.F 27 (("turned" : Str), s_turned) rfl)
  have c_circle := ok_circle_through X c_way c_dot (Z.F 36 (("circle_through" : Str), s_circle_through) rfl)
  have c_other := ok_other_of c_mirror c_upright (Z.F 37 (("other_of" : Str), s_other_of) rfl)
  have c_there : Cal P w K mg base CX0 1 "there_in" ["sketch", "things"] (spThereIn CE) := ok_there_in B (Z.F 32 (("there_in" : Str), s_there_in) rfl)
  have c_step : Cal P w K mg base CX0 1 "step_at" ["sketch", "name"] spStepAt := ok_step_at B (Z.F 30 (("step_at" : Str), s_step_at) rfl)
  have c_base := ok_base_of c_step (Z.F 31 (("base_of" : Str), s_base_of) rfl)
  have c_wayby := ok_way_by c_step c_way c_left (Z.F 33 (("way_by" : Str), s_way_by) rfl) 20 (by decide)
  have c_on := ok_place_on (d := 20) (by decide) B X c_agree c_base c_wayby (Z.F 34 (("place_on" : Str), s_place_on) rfl)
  have c_round := ok_place_round X c_step c_way c_left c_gone (Z.F 35 (("place_round" : Str), s_place_round) rfl)
  have WD : WayDefs P w K mg base CE CN := ⟨c_meet, c_mid, c_foot, c_mirror, c_through, c_along, c_upright, c_circle⟩
  have c_madeby := ok_made_by B WD Z.Wy c_on c_round c_turned c_other (Z.F 38 (("made_by" : Str), s_made_by) rfl)
  have c_made := ok_made B Z.Tk Z.X2 Z.KS c_agree c_madeby (Z.F 39 (("made" : Str), s_made) rfl)
  have c_drawn := ok_drawn TB c_made Z.drawn
  have c_same := ok_is_same X (Z.F 40 (("is_same" : Str), s_is_same) rfl)
  have c_cn := ok_is_cross_nought X c_cross (Z.F 41 (("is_cross_nought" : Str), s_is_cross_nought) rfl)
  have j_row := ok_are_in_row c_way c_cn (Z.F 43 (("are_in_row" : Str), s_are_in_row) rfl)
  have j_along := ok_are_along c_way c_cn (Z.F 44 (("are_along" : Str), s_are_along) rfl)
  have j_upr := ok_are_upright X c_way c_dot (Z.F 45 (("are_upright" : Str), s_are_upright) rfl)
  have j_alike := ok_are_alike c_way c_dot c_same (Z.F 46 (("are_alike" : Str), s_are_alike) rfl)
  have j_ang := ok_are_angles X c_way c_dot c_cross c_same (Z.F 47 (("are_angles" : Str), s_are_angles) rfl)
  have j_ring := ok_are_in_ring j_ang (Z.F 48 (("are_in_ring" : Str), s_are_in_ring) rfl)
  have j_one := ok_are_one B X c_way (Z.F 42 (("are_one" : Str), s_are_one) rfl)
  have j_at := ok_is_at B c_way c_dot c_same (Z.F 49 (("is_at" : Str), s_is_at) rfl)
  have JD : JdDefs P w K mg base CE := ⟨j_one, j_row, j_along, j_upr, j_alike, j_ang, j_ring, j_at⟩
  have c_soby := ok_is_so_by B JD Z.Jd c_agree c_there (Z.F 50 (("is_so_by" : Str), s_is_so_by) rfl)
  have c_so := ok_is_so c_drawn c_soby (Z.F 51 (("is_so" : Str), s_is_so) rfl)
  have l_deck : Cal P w K mg base CX0 1 "_law_deck" ["_law_script"] (spDeck K) := ok_deck B (Z.F 52 (("_law_deck" : Str), s__law_deck) rfl)
  have l_draw : Cal P w K mg base CX0 1 "_law_draw" ["_law_deck_here", "_law_many_here"] spDraw := ok__law_draw (Z.F 53 (("_law_draw" : Str), s__law_draw) rfl)
  have l_pick := ok__law_pick B l_draw (Z.F 54 (("_law_pick" : Str), s__law_pick) rfl)
  have l_q : Cal P w K mg base CX0 1 "_law_q" ["_law_top", "_law_bottom"] spQ := ok__law_q B (Z.F 55 (("_law_q" : Str), s__law_q) rfl)
  have l_number := ok__law_number l_draw l_pick l_q (Z.F 57 (("_law_number" : Str), s__law_number) rfl)
  have l_names := ok__law_names B l_draw (Z.F 56 (("_law_names" : Str), s__law_names) rfl)
  have l_known : Cal P w K mg base CX0 1 "_law_known" ["_law_plan_here", "_law_sort"] spKnown := ok__law_known (Z.F 59 (("_law_known" : Str), s__law_known) rfl)
  have l_two := ok__law_two B l_draw (Z.F 60 (("_law_two" : Str), s__law_two) rfl)
  have l_others : Cal P w K mg base CX0 1 "_law_others" ["_law_plan_here"] spOthers := ok__law_others (Z.F 61 (("_law_others" : Str), s__law_others) rfl)
  have l_some := ok__law_some_step B l_draw l_known l_two l_pick l_others (Z.F 62 (("_law_some_step" : Str), s__law_some_step) rfl)
  have l_weigh : Cal P w K mg base CX0 1 "_law_weigh" ["_law_weights", "_law_step", "_law_ways"] spWeigh := ok__law_weigh B Z.KS (Z.F 58 (("_law_weigh" : Str), s__law_weigh) rfl)
  have l_plan := ok__law_plan B l_draw l_names l_some l_weigh (Z.F 63 (("_law_plan" : Str), s__law_plan) rfl)
  have l_many : Cal P w K mg base CX0 1 "_law_many" ["_law_plan_here"] spMany := ok__law_many (Z.F 64 (("_law_many" : Str), s__law_many) rfl)
  have l_numbers := ok__law_numbers B l_many l_number (Z.F 65 (("_law_numbers" : Str), s__law_numbers) rfl)
  have l_hand := ok__law_hand B X (Z.F 66 (("_law_hand" : Str), s__law_hand) rfl)
  have l_stepof : Cal P w K mg base CX0 1 "_law_step_of" ["_law_plan_here", "_law_name"] spStepOf := ok__law_step_of (Z.F 67 (("_law_step_of" : Str), s__law_step_of) rfl)
  have l_shown : Cal P w K mg base CX0 5 "_law_shown" ["_law_it"] (spShown CE 4) := ok__law_shown T Z.KT B (Z.F 68 (("_law_shown" : Str), s__law_shown) rfl) 4 (by decide)
  have l_below : Cal P w K mg base CX0 1 "_law_below" ["_law_number_here"] spBelow := ok__law_below (Z.F 69 (("_law_below" : Str), s__law_below) rfl)
  have l_odd := ok__law_odd_way l_stepof (Z.F 70 (("_law_odd_way" : Str), s__law_odd_way) rfl) 20 (by decide)
  have l_planled : Cal P w K mg base CX0 1 "_law_plan_led" ["_law_plan_here"] spPlanLed := ok__law_plan_led B (Z.F 71 (("_law_plan_led" : Str), s__law_plan_led) rfl)
  have l_numled := ok__law_numbers_led (d := 20) B l_below l_odd (Z.F 72 (("_law_numbers_led" : Str), s__law_numbers_led) rfl)
  have l_led := ok__law_thing_led Z.KT B l_below (Z.F 73 (("_law_thing_led" : Str), s__law_thing_led) rfl)
  have l_claims := ok__law_claims B l_known l_pick (Z.F 74 (("_law_claims" : Str), s__law_claims) rfl)
  exact ⟨l_deck, l_draw, l_plan, l_numbers, l_pick, l_planled, l_numled, l_shown, c_drawn, l_hand, l_led, l_claims, c_so⟩
end
end Ph
set_option linter.all false
set_option maxRecDepth 100000
set_option maxHeartbeats 8000000
namespace Ph
open PySem PySem.Spec PyProof.Rows L2 LamX
theorem room_law : Room 68 callerA := ⟨rfl, by decide, by decide⟩
theorem law_run {P : Program} {w : World} {K : PySem.W.Frag} {mg : Str → Option Value} {CE CN CT c fa : Addr} (Z : Need K w mg CE CN CT c) (tree : P.given.tree = none) (hfa : mg "law" = some (.ref fa)) (base : Heap) (H : Hp) (s : Shared) (a : Addr) (ns : List Int) {tb : Addr}
    (dg : base.NoDigits) (sr : base.NoSeer) (TB : TabB base mg c tb) (e0 : Env0 P w K mg base callerA [] s H) (h1 : H tb = some (.tbl #[])) (h2 : SqL K H a (ns.map V.int)) :
    codeAny (model P w) callerA (.call (.ref fa) ⟨[.ref a], []⟩) (CR CX0 [] P w H s (fun v _ => v = .bl true) fun _ _ _ => False) s := by
  obtain ⟨f, fd, F, hf⟩ := (Z.F 75 (("law" : Str), s_law) rfl).ex
  obtain rfl : f = fa := by
    have e : some (Value.ref f) = some (Value.ref fa) := hf.symm.trans hfa
    injection e with e
    injection e
  have L := law_defs Z sr tree TB
  have bn := F.bindsN (ps := ["_law_script"]) fun _ _ _ _ _ _ us hl => match us, hl with | [_], _ => rfl
  have inK : K.In s.heap := e0.mod.kin.keeps fun b o e => (e0.bs b o e).1
  refine run_at (k := 68) (us := [.ref a]) (vs := [.ref a]) F sc_law room_law e0 (bn s [.ref a] inK rfl) (.cons rfl .nil) rfl fun cdv => ?_
  obtain ⟨t, t1, t2⟩ := law_walk (f := f) (cdv := cdv) (s := s) (E := fun _ _ _ => False) rfl facts_all Z.B L dg (room_law.deeper _) h1 h2
  exact ⟨t, t1.nox, t2⟩
end Ph
set_option linter.all false
set_option maxRecDepth 100000
set_option maxHeartbeats 8000000
namespace Ph
open PySem PySem.Spec PyProof.Rows L2 LamX Hd
/-! ### what the head tells is what is needed -/
theorem fnList_eq : fnList = fnT.map fun p => (p.1, top p.2) := rfl
section
variable {w : World} {h : Heap} {K : PySem.W.Frag} {mg : Str → Option Value}
theorem need (X : K.In h) (G : h.Ns mainGlobals mg) (c : He.SaysX fa fn ts tf ex w h K) : Need K w mg (He.ga K "Exact") (He.ga K "NoLine") (He.ga K "TwoRoots") (He.cT K ("drawn", none)).1 := by
  have fB : ∀ (i : Nat) (x : Str), faB[i]? = some (.free x) → mg x = none := fun i x e => He.free_ok X G (c.t.d.facts (List.mem_append_left _ (List.mem_append_left _ (List.mem_of_getElem? e))))
  have fX : ∀ (i : Nat) (f : He.Fa), faX[i]? = some f → f.ok K = true := fun i f e => c.t.d.facts (List.mem_append_left _ (List.mem_append_right _ (List.mem_of_getElem? e)))
  have gX : ∀ (i : Nat) (x : Str), faX[i]? = some (.glo x) → mg x = some (.ref (He.ga K x)) := fun i x e => He.glo_ok X G (fX i _ e)
  have gF : ∀ (p : Str × Nat), p ∈ fnT → mg p.1 = some (.ref (He.ga K p.1)) := fun p e => He.glo_ok X G (c.t.d.facts (List.mem_append_right _ (List.mem_map.mpr ⟨p, e, rfl⟩)))
  have dX : ∀ (i : Nat) (d : He.DefD), dfX[i]? = some d → ∃ fd, FunD K d.name d.qual d.params d.body d.scope (d.dvs K) (d.kws K) (He.fAd K d.at_) fd := fun i d e => c.t.d.defs (List.mem_append_left _ (List.mem_of_getElem? e))
  have dF : ∀ (p : Str × Nat), p ∈ fnT → ∃ fd, FunD K p.1 p.1 (defArgs (top p.2)) (defBody (top p.2)) (defScope (top p.2)) [] [] (He.ga K p.1) fd := fun p e => c.t.d.defs (List.mem_append_right _ (List.mem_map.mpr ⟨p, e, rfl⟩))
  obtain ⟨eA, eBC⟩ := He.ba (show (exA K && (exB K && exC K)) = true from c.more)
  obtain ⟨eB, eC⟩ := He.ba eBC
  unfold exA at eA
  obtain ⟨a1, eA⟩ := He.ba eA
  obtain ⟨a2, eA⟩ := He.ba eA
  obtain ⟨a3, eA⟩ := He.ba eA
  obtain ⟨a4, a5⟩ := He.ba eA
  have kit : ∀ (i : Nat) (q : Value × Value × Bool), (kits K)[i]? = some q → PySem.W.kitOne K q.1 q.2.1 = some q.2.2 := fun i q e => of_decide_eq_true (List.all_eq_true.mp eB q (List.mem_of_getElem? e))
  unfold exC at eC
  obtain ⟨v1, eC⟩ := He.ba eC
  obtain ⟨v2, eC⟩ := He.ba eC
  obtain ⟨v3, v4⟩ := He.ba eC
  have noT : ∀ (i : Nat) (x : Str), noTak[i]? = some x → PySem.W.nsIn K (He.ga K "TAKES") x = some none := fun i x e => He.eqO_ok (List.all_eq_true.mp v4 x (List.mem_of_getElem? e))
  obtain ⟨t1, t2, tk⟩ := c.t.tab 0 (t := (fun K => He.ga K "TAKES", ["free", "on", "round"])) rfl
  obtain ⟨y1, y2, wy⟩ := c.t.tab 1 (t := (fun K => He.ga K "PLAIN_WAYS", _)) rfl
  obtain ⟨j1, j2, jd⟩ := c.t.tab 2 (t := (fun K => He.ga K "JUDGES", _)) rfl
  have meth : ∀ (i j : Nat) (m q : Str) (k : Nat), faX[i]? = some (.meth "Exact" m) → dfX[j]? = some (dMeth m q k) → MtAt K (He.ga K "Exact") m q (inClass (top 17) k) := fun i j m q k e e2 => by
    obtain ⟨fd, FD⟩ := dX j _ e2
    exact ⟨⟨_, fd, FD, He.meth_ok (fX i _ e)⟩⟩
  have none_ : ∀ (x : Str), PySem.W.nsIn K (He.ga K "TAKES") x = some none → KGets K w (He.ga K "TAKES") x none := fun x e => ⟨t1, t2, tk, e⟩
  have some_ : ∀ (i : Nat) (x : Str) (n : Int), takV[i]? = some (x, .int n) → KGets K w (He.ga K "TAKES") x (some (.int n)) := fun i x n e => by
    obtain ⟨u, e1, e2⟩ := He.valsB_ok v1 (List.mem_of_getElem? e)
    exact ⟨t1, t2, u, tk, e1, e2⟩
  refine ⟨?B, ?T, ⟨kit 4 _ rfl, kit 5 _ rfl⟩, ⟨kit 6 _ rfl, kit 7 _ rfl⟩, ?I, meth 16 3 _ _ _ rfl rfl, meth 17 4 _ _ _ rfl rfl, meth 18 5 _ _ _ rfl rfl, meth 19 6 _ _ _ rfl rfl, meth 20 7 _ _ _ rfl rfl, ?N, ⟨gX 6 _ rfl, gX 7 _ rfl, of_decide_eq_true a5⟩, ?Tk, ?Wy, ?Jd, ?F, ?root, ?drawn⟩
  case B => exact ⟨fB 0 _ rfl, fB 1 _ rfl, fB 2 _ rfl, fB 3 _ rfl, fB 4 _ rfl, fB 5 _ rfl, fB 6 _ rfl, fB 7 _ rfl, fB 8 _ rfl, fB 9 _ rfl, fB 10 _ rfl, fB 11 _ rfl, fB 12 _ rfl, fB 13 _ rfl, fB 14 _ rfl, fB 15 _ rfl⟩
  case T => exact ⟨gX 5 _ rfl, He.cls_ok (fX 8 _ rfl), He.noat_ok (fX 9 _ rfl), He.noat_ok (fX 10 _ rfl), He.noat_ok (fX 11 _ rfl), He.noat_ok (fX 12 _ rfl), He.noat_ok (fX 13 _ rfl), He.eqO_ok a1, He.eqO_ok a2, of_decide_eq_true a3, of_decide_eq_true a4, kit 0 _ rfl, kit 1 _ rfl, kit 2 _ rfl, kit 3 _ rfl⟩
  case I =>
    obtain ⟨fd, FD⟩ := dX 2 dInit rfl
    exact ⟨⟨_, fd, FD, He.mkr_ok (fX 14 (.mkr "Exact") rfl)⟩⟩
  case N =>
    obtain ⟨x1, x2, x3, x4⟩ := He.exc_ok (fX 15 (.exc "NoLine") rfl)
    exact ⟨gX 6 _ rfl, x1, x2, x3, x4⟩
  case Tk =>
    refine ⟨_, t1, t2, gX 2 _ rfl, tk, fun s => ?_⟩
    cases s with
    | free => exact ⟨_, some_ 0 _ 2 rfl, rfl⟩
    | on _ => exact ⟨_, some_ 1 _ 1 rfl, rfl⟩
    | round _ => exact ⟨_, some_ 2 _ 1 rfl, rfl⟩
    | turn _ _ _ => exact ⟨_, none_ _ (noT 0 _ rfl), rfl⟩
    | other _ _ _ => exact ⟨_, none_ _ (noT 1 _ rfl), rfl⟩
    | two b _ _ =>
      refine ⟨none, none_ _ ?_, rfl⟩
      cases b with
      | meet => exact noT 2 _ rfl
      | middle => exact noT 3 _ rfl
      | foot => exact noT 4 _ rfl
      | mirror => exact noT 5 _ rfl
      | line => exact noT 6 _ rfl
      | along => exact noT 7 _ rfl
      | upright => exact noT 8 _ rfl
      | circle => exact noT 9 _ rfl
  case Wy =>
    refine ⟨_, y1, y2, gX 3 _ rfl, wy, fun b => ⟨He.ga K b.fn, ?_⟩⟩
    have key : ∀ (i j : Nat) (x y : Str) (n : Nat), waysV[i]? = some (x, .glo y) → fnT[j]? = some (y, n) → PySem.W.nsIn K (He.ga K "PLAIN_WAYS") x = some (some (.ref (He.ga K y))) ∧ mg y = some (.ref (He.ga K y)) := fun i j x y n e e2 => by
      obtain ⟨u, e3, e4⟩ := He.valsB_ok v2 (List.mem_of_getElem? e)
      obtain rfl : u = .ref (He.ga K y) := e4
      exact ⟨e3, gF _ (List.mem_of_getElem? e2)⟩
    cases b with
    | meet => exact key 0 22 _ _ _ rfl rfl
    | middle => exact key 1 23 _ _ _ rfl rfl
    | foot => exact key 2 25 _ _ _ rfl rfl
    | mirror => exact key 3 26 _ _ _ rfl rfl
    | line => exact key 4 19 _ _ _ rfl rfl
    | along => exact key 5 20 _ _ _ rfl rfl
    | upright => exact key 6 21 _ _ _ rfl rfl
    | circle => exact key 7 36 _ _ _ rfl rfl
  case Jd =>
    refine ⟨_, j1, j2, gX 4 _ rfl, jd, fun b => ⟨He.ga K b.fn, ?_⟩⟩
    have key : ∀ (i j : Nat) (x y : Str) (n : Nat), judgV[i]? = some (x, .glo y) → fnT[j]? = some (y, n) → PySem.W.nsIn K (He.ga K "JUDGES") x = some (some (.ref (He.ga K y))) ∧ mg y = some (.ref (He.ga K y)) := fun i j x y n e e2 => by
      obtain ⟨u, e3, e4⟩ := He.valsB_ok v3 (List.mem_of_getElem? e)
      obtain rfl : u = .ref (He.ga K y) := e4
      exact ⟨e3, gF _ (List.mem_of_getElem? e2)⟩
    cases b with
    | same => exact key 0 42 _ _ _ rfl rfl
    | row => exact key 1 43 _ _ _ rfl rfl
    | along => exact key 2 44 _ _ _ rfl rfl
    | upright => exact key 3 45 _ _ _ rfl rfl
    | alike => exact key 4 46 _ _ _ rfl rfl
    | angle => exact key 5 47 _ _ _ rfl rfl
    | ring => exact key 6 48 _ _ _ rfl rfl
    | lies => exact key 7 49 _ _ _ rfl rfl
  case F =>
    intro i p e
    rw [fnList_eq, List.getElem?_map] at e
    obtain ⟨q, e1, rfl⟩ := Option.map_eq_some_iff.mp e
    have m := List.mem_of_getElem? e1
    obtain ⟨fd, FD⟩ := dF q m
    exact ⟨⟨_, fd, FD, gF q m⟩⟩
  case root =>
    obtain ⟨fd, FD⟩ := dX 0 dRoot rfl
    exact ⟨⟨_, fd, FD, gX 0 _ rfl⟩⟩
  case drawn =>
    obtain ⟨fd, FD⟩ := dX 1 (dfOf ("drawn", 62)) rfl
    obtain ⟨oc, od, dV, kV, doc, pm, an, cdv, ct, osl, rfl, lk, hcd, d1, d2⟩ := FD.ex
    obtain ⟨cc, rfl⟩ := He.codeIn_ref hcd
    have e : (He.cT K ("drawn", none)).1 = cc := He.codeOf_eq lk rfl
    rw [e]
    exact ⟨⟨_, oc, od, dV, kV, doc, pm, an, ct, osl, gX 1 _ rfl, lk, hcd, d1, d2, FD.kp⟩⟩
end
end Ph
set_option linter.all false
set_option maxRecDepth 100000
set_option maxHeartbeats 0
namespace Ph
open PySem PySem.Spec PyProof.Rows L2 LamX Hd
theorem head_law (w : World) (mg : Str → Option Value) (fl : Addr) (h : Heap) (Y : hk.says w h) (G : h.Ns mainGlobals mg) (hmg : mg "law" = some (.ref fl)) : ∃ (K : PySem.W.Frag) (c tb : Addr), K.In h ∧ h.get? tb = some { cls := .none, data := .fields #[] } ∧ K.lookup tb = none ∧ PySem.W.CodeHd h c tb ∧
      ∀ (base : Heap) (H : Hp) (s : Shared) (a : Addr) (ns : List Int), base.NoDigits → base.NoSeer → TabB base mg c tb → Env0 Rw.prog w K mg base callerA [] s H → H tb = some (.tbl #[]) → SqL K H a (ns.map V.int) →
        codeAny (model Rw.prog w) callerA (.call (.ref fl) ⟨[.ref a], []⟩) (CR CX0 [] Rw.prog w H s (fun v _ => v = .bl true) fun _ _ _ => False) s := by
  obtain ⟨K, KX, c⟩ := Y
  have Z := need KX G c
  have m : (("drawn", none) : He.Defn) ∈ tf := List.mem_singleton.mpr rfl
  refine ⟨K, _, _, KX, c.empty _ m, c.out _ m, PySem.W.codeHd_of_K KX (c.hd _ m), fun base H s a ns dg sr TB e0 h1 h2 => ?_⟩
  exact law_run Z rfl hmg base H s a ns dg sr TB e0 h1 h2
end Ph
open PySem PySem.W PySem.Calls PyProof.Rows
theorem PySem.Challenge.cw_pointhouse_k65_whole_mirrored_holds : PySem.Challenge.rw_pointhouse_k65_whole_mirrored.Holds := by
  w_on; o_law
  refine Ph.Hd.holds_by (by assumption) ?hw ?hc
  case hw => w_witness2
  case hc =>
    refine Ph.law_end (l := Ph.Rw) (n := 63) (k := 68) rfl (by decide) (by kernel_rfl) Ph.Hd.noImp ?F
    intro w mg fl h Y G hmg0
    exact Ph.head_law w mg fl h Y G (Ph.Hd.nmL ▸ hmg0)
