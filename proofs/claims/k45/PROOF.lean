import PyProof.Rows.All
import Wide.All
import OpenK.AllK
import Wide.FinOn
import HandS.ForExc
import HandS.Comp
import HandS.Defaults
import HandS.ExcInit
import HandS.ExcField
import HandS.ExcIs
import HandS.HeadHook4
import HandS.HeadWalk
import HandS.Head2
import KE.KExcIs
import KE.GoesEnum
import KE.GoesMore
import HandS.Dict
import HandS.Iter
import HandS.Walk
import HandS.Zip
import HandS.Text
import HandS.IsInst
import HandS.OwnEq
import HandS.TryMany
import HandS.TupAny
import HandS.Style
import HandS.CallLocal
import HandS.CallSlots
import HandS.Lambda
import HandS.Codes
import HandS.WordsExc
import PySem.Challenge.RW_fourstrokes_k45_whole_pictures_and_scrip
set_option Elab.async false
set_option linter.all false
set_option maxRecDepth 100000
set_option maxHeartbeats 0
namespace K45
open PySem PySem.Spec PyProof.Rows L2
def top (i : Nat) : Stmt := PySem.Challenge.pw_fourstrokes_k45_whole_pictures_and_scrip.main.body.getD i (.Pass ⟨0, 0, 0, 0⟩)
def dd (x : Str) (i : Nat) : He.DefD := ⟨(x, none), x, x, defArgs (top i), defBody (top i), defScope (top i), [], []⟩
def dm (c m q : Str) (i j : Nat) : He.DefD := ⟨(c, some m), m, q, defArgs (inClass (top i) j), defBody (inClass (top i) j), defScope (inClass (top i) j), [], []⟩
def fn1 : List He.DefD := [dm "BadBoxes" "__init__" "BadBoxes.__init__" 2 0, dm "BadText" "__init__" "BadText.__init__" 5 0, dd "is_integer" 7, dd "is_within" 8, dd "is_pair" 9, dd "is_sized" 10, dd "are_integers" 11, dd "is_size" 15, dm "Boxes" "__init__" "Boxes.__init__" 16 0, dm "Boxes" "__eq__" "Boxes.__eq__" 16 1, dd "are_places" 17, dd "meet" 18, dd "in_row" 19, dd "in_column" 20, dd "overlap" 21, dd "all_overlaps" 22, dd "is_shown" 23, dd "check_picture" 24, dd "is_word" 28, dd "is_stroke" 29, dd "is_form" 32, dd "is_number_word" 37, dd "is_integer_word" 38, dd "integers_told" 39]
def fn2 : List He.DefD := [dd "lines_told" 40, dd "box_told" 41, dd "stroke_told" 42, dd "read_picture" 43, dd "read_script" 44, dd "_law_hand" 46, dd "_law_draw" 47, dd "_law_any" 48, dd "_law_deep" 49, dd "_law_lie_apart" 50, dd "_law_shown_parts" 51, dd "_law_parts" 52, dd "_law_picture_lines" 53, dd "_law_number" 54, dd "_law_closed_lines" 55, dd "_law_read_lines" 56, dd "_law_due_picture" 57, dd "_law_due_script" 58, dd "_law_told" 59, dd "_law_bent_line" 60, dd "_law_bent_text" 61, dd "_law_picture_right" 62, dd "_law_far_right" 63, dd "law" 64]
def fn : List He.DefD := fn1 ++ fn2
def fa1 : List He.Fa := [.glo "is_integer", .glo "is_within", .glo "is_pair", .glo "is_sized", .glo "are_integers", .glo "is_size", .glo "are_places", .glo "meet", .glo "in_row", .glo "in_column", .glo "overlap", .glo "all_overlaps", .glo "is_shown", .glo "check_picture", .glo "is_word", .glo "is_stroke", .glo "is_form", .glo "is_number_word", .glo "is_integer_word", .glo "integers_told", .glo "lines_told", .glo "box_told", .glo "stroke_told", .glo "read_picture", .glo "read_script", .glo "_law_hand", .glo "_law_draw", .glo "_law_any", .glo "_law_deep", .glo "_law_lie_apart", .glo "_law_shown_parts", .glo "_law_parts", .glo "_law_picture_lines", .glo "_law_number", .glo "_law_closed_lines", .glo "_law_read_lines", .glo "_law_due_picture", .glo "_law_due_script", .glo "_law_told", .glo "_law_bent_line"]
def fa2 : List He.Fa := [.glo "_law_bent_text", .glo "_law_picture_right", .glo "_law_far_right", .glo "law", .glo "StrokeError", .glo "BadBoxes", .glo "NoPicture", .glo "NoScript", .glo "BadText", .glo "Boxes", .free "isinstance", .free "int", .free "bool", .free "tuple", .free "len", .free "all", .free "str", .free "enumerate", .free "range", .free "zip", .free "max", .free "abs", .free "list", .free "ValueError", .int "MOST_BOXES" 40, .int "MOST_SIZE" 1000, .int "MOST_STROKES" 200, .int "MOST_FIGURES" 9, .str "LEVEL" "level", .str "UPRIGHT" "upright", .str "FIGURES" "0123456789", .str "BOX" "box", .cls "Boxes", .noat "Boxes" "sizes", .noat "Boxes" "many", .mkr "Boxes", .meth "Boxes" "__eq__", .exc "NoPicture", .exc "NoScript", .exm "BadText" "BadText" true, .exm "BadBoxes" "BadText" false, .exm "BadBoxes" "BadBoxes" true, .exm "NoPicture" "BadText" false, .exm "NoPicture" "BadBoxes" false, .exm "NoPicture" "NoPicture" true, .exm "NoScript" "BadText" false, .exm "NoScript" "BadBoxes" false, .exm "NoScript" "NoPicture" false, .exm "NoScript" "NoScript" true]
def fa : List He.Fa := fa1 ++ fa2
def nm1 : List Str := ["StrokeError", "BadBoxes", "NoPicture", "NoScript", "BadText", "is_integer", "is_within", "is_pair", "is_sized", "are_integers", "MOST_BOXES", "MOST_SIZE", "is_size", "Boxes", "are_places", "meet", "in_row", "in_column", "overlap", "all_overlaps", "is_shown", "check_picture", "LEVEL", "UPRIGHT", "is_word", "is_stroke", "MOST_STROKES", "is_form", "FIGURES", "MOST_FIGURES"]
def nm2 : List Str := ["BOX", "is_number_word", "is_integer_word", "integers_told", "lines_told", "box_told", "stroke_told", "read_picture", "read_script", "_law_hand", "_law_draw", "_law_any", "_law_deep", "_law_lie_apart", "_law_shown_parts", "_law_parts", "_law_picture_lines", "_law_number", "_law_closed_lines", "_law_read_lines", "_law_due_picture", "_law_due_script", "_law_told", "_law_bent_line", "_law_bent_text", "_law_picture_right", "_law_far_right"]

/-- an own exception class over ValueError: its object is of the known form -/
def oexB (K : PySem.W.Frag) (C : Addr) : Bool := match K.lookup C with
  | some ⟨.type "type", _, .cls cd, sl⟩ => (match cd.mro, sl.toList with
    | .ref C' :: bm, [_, _, _, _, some (.builtin n), _] => decide (C' = C) && (decide (n = "ValueError.__new__") && (!cd.hasDel && (cd.hasDict && PySem.HandSPX.refsVE bm)))
    | _, _ => false)
  | _ => false
/-- isinstance asks an instance of the class at D so -/
def isiB (K : PySem.W.Frag) (D : Addr) : Bool :=
  He.eqO (PySem.W.findIn K (.ref D) "__class__") (some (some (.builtin "object.__class__"))) && (He.eqO (PySem.W.specialIn K (.builtin "object.__class__") "__get__") (some (some (.builtin "getset_descriptor.__get__"))) &&
    (decide (PySem.W.takesIn K (.builtin "object.__class__") = some true) && decide (PySem.W.mroIn K D (.type "object") = some true)))
def excB (K : PySem.W.Frag) (x f : Str) : Bool :=
  oexB K (He.ga K x) && (He.eqO (PySem.W.findIn K (.ref (He.ga K x)) "__setattr__") (some (some (.builtin "object.__setattr__"))) && (decide (PySem.W.typeIn K (.ref (He.ga K x)) = some (.type "type")) && (PySem.W.keepIn K (.ref (He.ga K x)) &&
    (xfB K (He.ga K x) && (He.eqO (PySem.W.findIn K (.ref (He.ga K x)) f) (some none) && (He.eqO (PySem.W.findIn K (.ref (He.ga K x)) "__init__") (some (some (.ref (He.ma K (He.ga K x) "__init__")))) && decide (PySem.W.typeIn K (.ref (He.ma K (He.ga K x) "__init__")) = some (.type "function"))))))))
def moreB (K : PySem.W.Frag) : Bool :=
  excB K "BadText" "line" && (excB K "BadBoxes" "part" && (isiB K (He.ga K "Boxes") && (isiB K (He.ga K "BadText") &&
    (decide (PySem.W.kitOne K (.ref (He.ga K "BadText")) (.ref (He.ga K "StrokeError")) = some true) && (decide (PySem.W.kitOne K (.ref (He.ga K "BadText")) (.type "ValueError") = some true) &&
    (decide (PySem.W.kitOne K (.ref (He.ga K "Boxes")) (.ref (He.ga K "Boxes")) = some true) && (decide (PySem.W.kitOne K (.ref (He.ga K "Boxes")) (.type "str") = some false) && (decide ((He.cT K ("_law_picture_right", none)).2 ≠ (He.cT K ("_law_far_right", none)).2) && (decide ((He.cT K ("_law_picture_right", none)).2 ≠ (He.cT K ("law", none)).2) && decide ((He.cT K ("_law_far_right", none)).2 ≠ (He.cT K ("law", none)).2))))))))))
def tf : List He.Defn := [("_law_picture_right", none), ("_law_far_right", none), ("law", none)]
abbrev R : PySem.W.OpenRow := PySem.W.OpenLaw.row PySem.Challenge.rw_fourstrokes_k45_whole_pictures_and_scrip
abbrev hk : PySem.W.Hook := He.hookX 4 fa fn [] tf moreB
def ob (s : PySem.W.SharedT) : He.AlX := He.obsX 4 fa fn [] tf moreB (HandSHeadRun.getT s)
theorem ob_eq (s : PySem.W.SharedT) : ob s = hk.obs s.abs := He.obsX_eq (HandSHeadRun.getT_eq s)
theorem run (w : World) : HandSHeadRun.RunEq R (PySem.W.view R.prog [64]) hk ob 4000 (nm1 ++ nm2) w := by
  intro os
  kernel_rfl
end K45

namespace K45
open PySem PySem.Spec PyProof.Rows L2
/-! ### a def that may be called by its name -/
structure CalX (P : Program) (w : World) (K : PySem.W.Frag) (mg : Str → Option Value) (base : Heap) (CX : CXT) (k : Nat) (x : Str) (sp : Sp) : Prop where
  ex : ∃ (f : Addr) (fd : FuncData) (ps : List Str), FnOk P w K mg base CX k f fd ps sp ∧ mg x = some (.ref f) ∧ PySem.W.keepIn K (.ref f) = true ∧ Binds K fd ps []
section
variable {X : Cx} {CX : CXT} {k j : Nat} {x : Str} {sp : Sp} {E : XK} {ES : L2.St → XK} {p pos : Pos} {e : Expr} {es : List Expr} {t : TA}
theorem pe_x (c : CalX X.prog X.w X.K X.mg X.base CX k x sp) (hr : Room j X.A) (hk : k ≤ j) (hx : Passes CX X E) (hg : Gl X x) (ha : PA X (e :: es) t)
    (hdb : (x == ("__debug__" : Str)) = false := by decide) (he : starEach (e :: es) X.env = (false, eval e X.env) :: starEach es X.env := by rfl) (hpl : (backTo pos (starEach es X.env)).any (·.1) = false := by rfl) :
    PE X (.Call (.Name x p) (e :: es) [] pos) (tCall sp [] E t) := by
  obtain ⟨f, fd, ps, F, m, kp, b⟩ := c.ex
  exact pe_call F (hr.mono hk) hg m kp b .nil hx ha hdb he hpl
/-- a call that raises nothing -/
theorem pe_0 (c : CalX X.prog X.w X.K X.mg X.base CX0 k x sp) (hr : Room j X.A) (hk : k ≤ j) (hg : Gl X x) (ha : PA X (e :: es) t)
    (hdb : (x == ("__debug__" : Str)) = false := by decide) (he : starEach (e :: es) X.env = (false, eval e X.env) :: starEach es X.env := by rfl) (hpl : (backTo pos (starEach es X.env)).any (·.1) = false := by rfl) :
    PE X (.Call (.Name x p) (e :: es) [] pos) (tCall sp [] E0 t) := pe_x c hr hk pass0 hg ha hdb he hpl
theorem CalX.mono {P : Program} {w : World} {K : PySem.W.Frag} {mg : Str → Option Value} {base : Heap} (c : CalX P w K mg base CX k x sp) (h : k ≤ j) : CalX P w K mg base CX j x sp := by
  obtain ⟨f, fd, ps, F, r⟩ := c.ex
  exact ⟨⟨f, fd, ps, F.mono h, r⟩⟩
end
/-! ### several except clauses, with a name or without -/
abbrev Suite := Addr → Value → Option Addr → TS
/-- what the clauses wish, one after the other: (class, slot of the name if there is one, suite) -/
def wMix (K : PySem.W.Frag) (Wout : WX) (D : Ends) : List (Value × Option Nat × Suite) → WX
  | [] => Wout
  | (c, none, ts) :: r => fun cls d σ H => ∃ b, PySem.W.exmOne K cls c = some b ∧ (b = true → ∀ a, H a = none → ts a cls d D σ H) ∧ (b = false → wMix K Wout D r cls d σ H)
  | (c, some i, ts) :: r => fun cls d σ H => ∃ b, PySem.W.exmOne K cls c = some b ∧ (b = true → ∀ a, H a = none → ts a cls d { nx := fun σ' H' => D.nx (σ'.set i none) H', rt := D.rt, bk := fun σ' H' => D.bk (σ'.set i none) H', ct := fun σ' H' => D.ct (σ'.set i none) H' } (σ.set i (some (.ref a))) H) ∧
      (b = false → wMix K Wout D r cls d σ H)
inductive HdsMx (X : Cx) : List ExceptHandler → List (Value × Option Nat × Suite) → Prop
  | nil : HdsMx X [] []
  | cons {x : Str} {c : Value} {ts : Suite} {b0 : Stmt} {suite : List Stmt} {np pos' : Pos} {hds : List ExceptHandler} {l : List (Value × Option Nat × Suite)} (hc : Names X x c)
      (hsu : ∀ (a : Addr) (oe : Obj) (cls : Value) (d : Option Addr) (pn : List (Addr × Obj)), Zc cls d oe → (∃ vs, oe.data = .fields vs) → PSs (X.suite a ((a, oe) :: pn)) (b0 :: suite) (ts a cls d)) (r : HdsMx X hds l) :
      HdsMx X (.ExceptHandler (some (.Name x np)) none (b0 :: suite) pos' :: hds) ((c, none, ts) :: l)
  | consAs {x n : Str} {c : Value} {i : Nat} {ts : Suite} {b0 : Stmt} {suite : List Stmt} {np pos' : Pos} {hds : List ExceptHandler} {l : List (Value × Option Nat × Suite)} (hN : X.N.Nodup) (hi : X.N[i]? = some n) (hln : X.env.kindOf n = some .local) (hc : Names X x c)
      (hsu : ∀ (a : Addr) (oe : Obj) (cls : Value) (d : Option Addr) (pn : List (Addr × Obj)), Zc cls d oe → (∃ vs, oe.data = .fields vs) → PSs (X.suite a ((a, oe) :: pn)) (b0 :: suite) (ts a cls d)) (r : HdsMx X hds l) :
      HdsMx X (.ExceptHandler (some (.Name x np)) (some n) (b0 :: suite) pos' :: hds) ((c, some i, ts) :: l)
section
variable {X : Cx} {body : List Stmt} {h0 : ExceptHandler} {hds : List ExceptHandler} {l : List (Value × Option Nat × Suite)} {pos : Pos} {tb : WX → TS} {Wout : WX}
theorem ps_try_mix (hs : X.stack = X.env :: X.outer) (hf : X.env.frame = some X.env.locals) (tk : Takes X Wout)
    (hb : ∀ (W : WX) (pn : List (Addr × Obj)) (xe : Value → Shared → Prop), Takes (X.tr pn xe) W → PassesOwn (model X.prog X.w) X.A X.env xe → PSs (X.tr pn xe) body (tb W))
    (hh : HdsMx X (h0 :: hds) l) : PS X (.Try body (h0 :: hds) [] [] pos) (fun D σ H => tb (wMix X.K Wout D l) D σ H) := by
  refine ⟨fun pins s σ H D I h => ?_⟩
  have ok := I.ok
  have hfr : X.A.frames = some (X.env :: X.outer) := by rw [ok.frames, hs]
  refine wpAny_Try_except ?_
  refine wpAny_mono ((hb (wMix X.K Wout D l) (X.pn ++ pins) (fun e s₁ => wpAny (model X.prog X.w) X.A (noteFrame e X.env) (fun _ s₂ => wpAny (model X.prog X.w) X.A (setFlight e none) (fun _ s₃ =>
    wpAny (model X.prog X.w) X.A (handleBy e X.env (h0 :: hds)) (SP X pins D) X.xe s₃) X.xe s₂) X.xe s₁) (fun u s' xx => ?_) PassesOwn.looking).run [] s σ H D (I.toTry _) h) (fun f s1 hsp => ?_) (fun e s1 he => he)
  · obtain ⟨a, B, sI, pins', σ', H', cls, d, rfl, J', nb, up, sky, na, os, ag, w⟩ := xx
    have J : Inv X pins σ' H' sI := J'.ofTry ok
    have sky' : Sky B (X.env :: X.outer) a (Zc cls d) X.env.locals s'.heap := by rw [← hs]; exact sky
    show wpAny (model X.prog X.w) X.A (noteFrame (.ref a) X.env) _ _ _
    refine Sky.land Zc.steady hfr hf sky' fun h3 fl3 up3 => ?_
    have J3 : Inv X pins σ' H' { s' with heap := h3 } := J.landed nb fl3.1 (up.trans up3) os ag
    obtain ⟨oe3, vs3, he3, hz3, hd3⟩ := fl3.there
    have notFr : ∀ {h : Heap} {o : Obj} {vs : Array Value}, h.FunFrames B (X.env :: X.outer) → h.get? a = some o → o.data = .fields vs → a ∉ frs (X.env :: X.outer) := fun {h o vs} ff e dd hm => by
      obtain ⟨_, o', e', hnf⟩ := ff.mem hm
      rw [e] at e'; cases e'
      exact hnf _ dd
    have nfr := notFr fl3.2.2.1 he3 hd3
    have nL : a ≠ X.env.locals := fun z => nfr (List.mem_filterMap.mpr ⟨X.env, List.mem_cons_self, by rw [hf, z]⟩)
    have nF : a ∉ X.fs := fun hm => by
      obtain ⟨e, he, q⟩ := List.mem_filterMap.mp hm
      exact nfr (List.mem_filterMap.mpr ⟨e, List.mem_cons_of_mem _ he, q⟩)
    have S3 := J3.suite he3 hd3 na nL nF
    have LT : PySem.W.Looks (model X.prog X.w) h3 (typeOf (.ref a)) cls := fun A Q E s k q => wpAny_typeOf_ref (k _ _ he3) (by rw [hz3.1]; exact q)
    have test : ∀ {x : Str} {c : Value} {np : Pos} {Q : Value → Shared → Prop} {E : Value → Shared → Prop}, Names X x c → Q c { s' with heap := h3 } → wpAny (model X.prog X.w) (X.A.mark (some (.ref a))) (eval (.Name x np) X.env) Q E { s' with heap := h3 } := fun {x c np Q E} hc q => by
      obtain ⟨hg, hdbg, hm | ⟨hm, hv, hnn⟩⟩ := hc
      · exact ld_glob (X := X.suite a ((a, oe3) :: (X.pn ++ pins))) S3 hg hm q hdbg
      · exact ld_blt (X := X.suite a ((a, oe3) :: (X.pn ++ pins))) S3 hg hm hv q hnn hdbg
    have go : ∀ {hds' : List ExceptHandler} {l' : List (Value × Option Nat × Suite)}, HdsMx X hds' l' → wMix X.K Wout D l' cls d σ' H' →
        wpAny (model X.prog X.w) X.A (handleBy (.ref a) X.env hds') (SP X pins D) X.xe { s' with heap := h3 } := by
      intro hds' l' hk
      induction hk with
      | nil =>
        intro w
        refine wpAny_handleBy_nil ?_
        obtain ⟨k1, k2, k3, oe, vs, T, oT, ts', he, hz, hd, h1, hr⟩ := id fl3
        unfold PySem.passOn
        refine wpAny_bind (wpAny_field he hd h1 ?_)
        rw [if_neg (show ¬ ((Value.ref T == Value.none) = true) from by simp)]
        have fin : wpAny (model X.prog X.w) X.A (setFlight (.ref a) X.env.frame) (fun _ s4 => wpAny (model X.prog X.w) X.A (throw (.ref a) : Sem Flow) (SP X pins D) X.xe s4) X.xe { s' with heap := h3 } := by
          rw [hf]
          refine HandSPX.setFlight_upZ fl3 fun h4 hh4 up4 => wpAny_throw (tk _ _ ?_)
          exact ⟨a, B, sI, pins, σ', H', cls, d, rfl, J, nb, (up.trans up3).trans up4, .inr (.inr (by rw [hs]; exact hh4)), na, os, ag, w⟩
        first
          | exact wpAny_bind (wpAny_pure (wpAny_bind fin))
          | exact wpAny_bind fin
      | @cons x c ts b0 suite np pos' hds2 l2 hc hsu r ih =>
        intro w
        obtain ⟨b, hb1, hyes, hno⟩ := w
        refine wpAny_handleBy_cons (codeAny_handlers_test ?_) (by intro q; cases q)
        have LM := PySem.W.exm_one (M := model X.prog X.w) (J3.kIn) LT hb1
        refine test hc (LM.here ?_)
        cases b with
        | true =>
          refine codeAny_handlers_suite ?_
          refine HandSPX.lands_againZ fl3 fun h4 fl4 up4 => ?_
          have J4 : Inv X pins σ' H' { s' with heap := h4 } := J.landed nb fl4.1 ((up.trans up3).trans up4) os ag
          obtain ⟨oe4, vs4, he4, hz4, hd4⟩ := fl4.there
          have S4 := J4.suite he4 hd4 na nL nF
          refine wpAny_mono ((hsu a oe4 cls d (X.pn ++ pins) hz4 ⟨_, hd4⟩).run [] _ _ H' _ S4 (hyes rfl a na)) (fun f s6 hsp => ?_) (fun _ _ z => False.elim z)
          cases f with
          | next =>
            obtain ⟨σ6, H6, S6, q6⟩ := hsp
            exact ⟨_, _, S6.unsuite ok, q6⟩
          | brk =>
            obtain ⟨σ6, H6, S6, q6⟩ := hsp
            exact ⟨_, _, S6.unsuite ok, q6⟩
          | cont =>
            obtain ⟨σ6, H6, S6, q6⟩ := hsp
            exact ⟨_, _, S6.unsuite ok, q6⟩
          | ret u =>
            obtain ⟨v6, σ6, H6, S6, r6, q6⟩ := hsp
            exact ⟨_, _, _, S6.unsuite ok, r6, q6⟩
        | false =>
          show wpAny _ X.A (handleBy (.ref a) X.env hds2) _ _ _
          exact ih (hno rfl)
      | @consAs x n c i ts b0 suite np pos' hds2 l2 hN hi hln hc hsu r ih =>
        intro w
        obtain ⟨b, hb1, hyes, hno⟩ := w
        have hloc : Loc X.env.scope n := .inl hln
        refine wpAny_handleBy_cons (codeAny_handlers_test ?_) (by intro q; cases q)
        have LM := PySem.W.exm_one (M := model X.prog X.w) (J3.kIn) LT hb1
        refine test hc (LM.here ?_)
        cases b with
        | true =>
          refine codeAny_handlers_suite_as ?_
          refine HandSPX.lands_againZ fl3 fun h4 fl4 up4 => ?_
          have J4 : Inv X pins σ' H' { s' with heap := h4 } := J.landed nb fl4.1 ((up.trans up3).trans up4) os ag
          obtain ⟨oe4, vs4, he4, hz4, hd4⟩ := fl4.there
          have S4 := J4.suite he4 hd4 na nL nF
          refine store_ok (X := X.suite a ((a, oe4) :: (X.pn ++ pins))) (v := .ref a) S4 hN hi hloc rfl (fun s5 S5 => ?_) (.inr hln)
          refine wpAny_mono ((hsu a oe4 cls d (X.pn ++ pins) hz4 ⟨_, hd4⟩).run [] s5 _ H' _ S5 (hyes rfl a na)) (fun f s6 hsp => ?_) (fun _ _ z => False.elim z)
          have end_ : ∀ {σ6 : L2.St} {H6 : Hp} {Q : Shared → Prop}, Inv (X.suite a ((a, oe4) :: (X.pn ++ pins))) [] σ6 H6 s6 → (∀ s7, Inv X pins (σ6.set i none) H6 s7 → Q s7) →
              wpAny (model X.prog X.w) X.A (do bindName X.env n .none; unbindBehindTheSuite X.env n pos') (fun _ s7 => Q s7) X.xe s6 := fun {σ6 H6 Q} S6 hq => gone_ok (S6.unsuite ok) hN hi hln hq
          cases f with
          | next =>
            obtain ⟨σ6, H6, S6, q6⟩ := hsp
            exact end_ S6 fun s7 J7 => ⟨_, _, J7, q6⟩
          | brk =>
            obtain ⟨σ6, H6, S6, q6⟩ := hsp
            exact end_ S6 fun s7 J7 => ⟨_, _, J7, q6⟩
          | cont =>
            obtain ⟨σ6, H6, S6, q6⟩ := hsp
            exact end_ S6 fun s7 J7 => ⟨_, _, J7, q6⟩
          | ret u =>
            obtain ⟨v6, σ6, H6, S6, r6, q6⟩ := hsp
            exact end_ S6 fun s7 J7 => ⟨_, _, _, J7, r6, q6⟩
        | false =>
          show wpAny _ X.A (handleBy (.ref a) X.env hds2) _ _ _
          exact ih (hno rfl)
    exact go hh w
  · cases f with
    | next =>
      obtain ⟨σ', H', J', q⟩ := hsp
      exact wpAny_execs_nil ⟨σ', H', J'.ofTry ok, q⟩
    | brk =>
      obtain ⟨σ', H', J', q⟩ := hsp
      exact ⟨σ', H', J'.ofTry ok, q⟩
    | cont =>
      obtain ⟨σ', H', J', q⟩ := hsp
      exact ⟨σ', H', J'.ofTry ok, q⟩
    | ret u =>
      obtain ⟨v, σ', H', J', r, q⟩ := hsp
      exact ⟨v, σ', H', J'.ofTry ok, r, q⟩
end
/-! ### isinstance of a caught exception that has a dict of its own -/
def rIsD (K : PySem.W.Frag) (D a : Addr) (d : Option Addr) : List V → Hp → VK → Prop := fun xs H Q => ∃ (c : V) (cv : Value) (b : Bool) (dd : Addr) (fs : List (Str × V)), xs = [.ref a, c] ∧ d = some dd ∧ H dd = some (.xd fs) ∧ ClsV c cv ∧ PySem.W.kitOne K (.ref D) cv = some b ∧ Q (.bl b) H
theorem call_isD {X : Cx} {a D : Addr} {oe : Obj} {cls : Value} {d : Option Addr} {pn : List (Addr × Obj)} (T : XfC X.K D) (ha : PySem.W.findIn X.K (.ref D) "__class__" = some (some (.builtin "object.__class__")))
    (hn : PySem.W.specialIn X.K (.builtin "object.__class__") "__get__" = some (some (.builtin "getset_descriptor.__get__"))) (ht : PySem.W.takesIn X.K (.builtin "object.__class__") = some true) (hm : PySem.W.mroIn X.K D (.type "object") = some true)
    (hz : Zc cls d oe) (hf : ∃ vs, oe.data = .fields vs) : CallR (X.suite a ((a, oe) :: pn)) (.builtin "isinstance") (fun xs H Q => cls = .ref D ∧ rIsD X.K D a d xs H Q) := by
  intro pins s σ H xs us Q I r h
  obtain ⟨ec, c, cv, b, dd, fs, rfl, ed, ex, hcv, e, q⟩ := h
  subst ec ed
  cases r with
  | cons rx rr =>
    cases rr with
    | cons rt rr =>
      cases rr
      cases rx
      have ec := hcv.eq rt
      subst ec
      obtain ⟨hget, _⟩ := I.pin (a, oe) (List.mem_append.mpr (.inl List.mem_cons_self))
      obtain ⟨vs, hv⟩ := hf
      have hx : ObjOk X.prog X.w H s.heap dd (.xd fs) := I.hok dd _ ex
      obtain ⟨mA, hns, hr⟩ := hx
      obtain ⟨od, ho, hl⟩ := lookIn_ns hns
      have J : PySem.W.InstAt s.heap a oe D (some od) := ⟨hget, hz.1, by unfold PySem.W.notCls; rw [hv] <;> rfl, by rw [hz.2]; exact ho⟩
      have hcl : (PySem.W.clsIn X.K D).isSome = true := by
        obtain ⟨cd, hc, _⟩ := PySem.W.any_some T.hdC
        rw [hc]; rfl
      exact PySem.W.kia_one (PySem.W.kitx_exc hcl T.ga T.gg T.exC ha hn ht hm) I.kIn J e (fun z => nomatch z) fun tk => ⟨.bl b, H, I.kept (t' := tk) fun _ _ z => z, rfl, q⟩
/-! ### X(), X an own exception class without own __init__ -/
theorem pmk_own0 {X : Cx} {C : Addr} {bmB : List Value} {B newId initId : String} {x : Str} {p pos : Pos} (F : ExcBaseFacts B newId initId bmB) (q : PySem.W.excIn X.K C bmB newId = true) (gC : X.mg x = some (.ref C)) (kC : PySem.W.keepIn X.K (.ref C) = true) (r : Raises X (.ref C)) (hg : Gl X x)
    (hdb : (x == ("__debug__" : Str)) = false := by decide) : PMk X (.Call (.Name x p) [] [] pos) (fun _ H Q => Q (.ref C) none H) := by
  intro pins s σ H Q I h
  refine wpAny_Call_Name_kw (ld_glob I hg gC ?_ hdb)
  refine PySem.W.callWith_K0 I.kIn kC ?_
  show wpAny _ _ (call (.ref C) []) _ _ _
  obtain ⟨bm, N, nm, qn, bs, hdct, sn, sub, ab, col, dd, k0, k1, k2, k3, k5, mN, hC, hN, hni, T⟩ := exc_obj I.kIn q
  refine wpAny_call_exc_subT F T hC hN hni (fun h' e hm => ?_) (Nat.zero_le _)
  exact mk_of I hm r h (I.hok.gone hm.new)
/-! ### a text times an int -/
theorem rep_codes (xs : Array Nat) : ∀ (n : Nat) (acc : Array Nat), ((List.replicate n xs).foldl (· ++ ·) acc).toList = acc.toList ++ (List.replicate n xs.toList).flatten
  | 0, acc => by simp
  | n + 1, acc => by
    rw [List.replicate_succ, List.foldl_cons, rep_codes xs n (acc ++ xs), List.replicate_succ, List.flatten_cons]
    simp
def repS (x : Str) (n : Nat) : Str := ⟨(List.replicate n x.cps.toList).flatten.toArray⟩
def rRepS : R2 := fun x y H Q => ∃ (a : Str) (n : Int), x = .str a ∧ y = .int n ∧ 2 ≤ a.length ∧ a.length ≤ 1000 ∧ 1 ≤ n ∧ n ≤ 1000 ∧ Q (.str (repS a n.toNat)) H
theorem op_repS {X : Cx} : OpR X (binaryOp .Mult) rRepS := by
  intro pins s σ H x y v u Q I rx ry h
  obtain ⟨a, n, rfl, rfl, ha, ha2, h1, h2, q⟩ := h
  obtain ⟨t, rfl⟩ := rx
  obtain ⟨t', rfl⟩ := ry
  have hsz : a.length * n.toNat ≤ 1000 * 1000 := Nat.mul_le_mul ha2 (by omega)
  refine PySem.P.mul_str (by
    have e1 : ¬ n < -(2 ^ 63 : Int) := by omega
    have e2 : ¬ n ≥ (2 ^ 63 : Int) := by omega
    rw [decide_eq_false e1, decide_eq_false e2]; rfl) (fun _ _ => ?_) (fun _ _ => ?_) ?_
  · have h3 : (1000 : Int) ≤ (2 ^ 63 - 1) / n := by
      rw [Int.le_ediv_iff_mul_le (by omega)]
      omega
    omega
  · unfold PySem.Builtin.Str.tooLong
    rw [decide_eq_false_iff_not]
    rw [sizeLine_eq]
    omega
  · rw [if_neg (by omega : ¬ n < 1)]
    by_cases e : (n == 1 || a.length == 0) = true
    · rw [if_pos e]
      have en : n = 1 := by
        simp only [Bool.or_eq_true, beq_iff_eq] at e
        omega
      subst en
      have er : repS a (1 : Int).toNat = a := by
        unfold repS
        simp
      rw [er] at q
      exact ⟨.str a, H, I, ⟨_, rfl⟩, q⟩
    · rw [if_neg e]
      have er : (⟨(List.replicate n.toNat a.cps).foldl (· ++ ·) #[]⟩ : Str) = repS a n.toNat := by
        unfold repS
        congr 1
        apply Array.toList_inj.mp
        rw [rep_codes]
        simp
      rw [er]
      refine ⟨?_, .str _, H, I.tok _, ⟨_, rfl⟩, q⟩
      have hl : (repS a n.toNat).length = n.toNat * a.length := by
        unfold repS PySem.Str.length
        simp [List.length_flatten]
      rw [hl, sizeLine_eq, Nat.mul_comm]
      omega
/-! ### many written texts as arguments -/
theorem pa_strs {X : Cx} : ∀ (l : List (Str × Nat × Pos)), PA X (l.map fun q => Expr.Constant (.str q.1) q.2.1 q.2.2) (fun _ H Q => Q (l.map fun q => V.str q.1) H)
  | [] => pa_nil
  | _ :: r => pa_cons pe_str (pa_strs r)
end K45

namespace K45
open PySem PySem.Spec PyProof.Rows L2
/-- enumerate of a tuple, counted from k0 -/
def IteT (K : PySem.W.Frag) (a : Addr) (k0 : Int) : It :=
  ⟨fun i H => ∃ (xs : List V) (x : V), SqT K H a xs ∧ xs[i]? = some x, fun i H v H' => ∃ T x, v = .ref T ∧ H T = none ∧ H' = upd H T (.tup [.int (k0 + ((i : Nat) : Int)), x]) ∧ ∀ xs, SqT K H a xs → xs[i]? = some x, fun i H => ∃ xs : List V, SqT K H a xs ∧ xs.length = i⟩
theorem turn_enumT {P : Program} {w : World} {K : PySem.W.Frag} {elts : List Expr} {kk : Nat} {tpos : Pos} (a e it : Addr) (k0 : Int) :
    Turn P w K (.Tuple elts kk tpos) (IteT K a k0) [e, it] e (fun i h => (∃ old, IsEnum h e it (k0 + ((i : Nat) : Int)) old) ∧ h.IsTupleIter it a i ∧ e ≠ it ∧ a ≠ it ∧ a ≠ e) where
  mem := by simp
  obj := fun i h st b hb => by
    obtain ⟨⟨old, he⟩, ⟨o, ho, hc, hd⟩, _⟩ := st
    have e' : b = e ∨ b = it := by simpa using hb
    rcases e' with z | z
    · rw [z]; exact ⟨_, he, fun v q => nomatch q⟩
    · rw [z]; exact ⟨o, ho, fun v q => by rw [hd] at q; cases q⟩
  keep := fun i h h' st k => let ⟨⟨old, he⟩, hi, hne⟩ := st; ⟨⟨old, k e (by simp) _ he⟩, hi.at fun o q => k it (by simp) o q, hne⟩
  item := by
    intro X hP hw hK hc i pins s σ H E I hf st hg
    subst hP hw hK
    obtain ⟨⟨old, he⟩, hit, hne, hai, hae⟩ := st
    obtain ⟨xs, x, hq, hx⟩ := hg
    obtain ⟨its, rv, p, hz⟩ := I.tuple hq
    obtain ⟨u, hu, ru⟩ := rv.get hx
    have hel : e < s.heap.objs.size := Heap.lt_size he
    have hil : it < s.heap.objs.size := by obtain ⟨_, q, _⟩ := hit; exact Heap.lt_size q
    have hh : X.A.in1.handled = none := I.ok.hd hc
    have p' : s.heap.IsTuple a its.toArray := p
    have hlt : i < its.toArray.size := by
      have h1 := rv.length
      have h2 : i < xs.length := (List.getElem?_eq_some_iff.mp hx).1
      rw [List.size_toArray]; omega
    refine wpAny_pyNext_enum_itemC (Draws.tuple hh it a hai its.toArray) he ⟨hit, p'⟩ hlt hne (by
      intro z
      have z' : e = it ∨ e = a := by simpa using z
      rcases z' with z | z
      · exact hne z
      · exact hae z.symm) fun x2 h' tk hx2 ho hst hT hsz hk => ?_
    have ex2 : x2 = u := by
      have h1 : its.toArray[i]? = some x2 := hx2
      rw [List.getElem?_toArray, hu] at h1
      exact (Option.some.inj h1).symm
    subst ex2
    refine ⟨_, rfl, wpAny_letOwnedTupleGo_enum (s := { s with heap := h', toks := tk + 1 }) ho fun h'' he' sb => ?_⟩
    have hT2 : h''.get? s.heap.objs.size = some { cls := .type "tuple", data := .seq #[.int (k0 + ((i : Nat) : Int)) tk, x2] } := (sb.2 _ (Nat.ne_of_gt hel)).trans hT
    have new : ObjOk X.prog X.w (upd H s.heap.objs.size (.tup [.int (k0 + ((i : Nat) : Int)), x])) h'' s.heap.objs.size (.tup [.int (k0 + ((i : Nat) : Int)), x]) :=
      ⟨by show 2 ≤ sizeLine; decide, [.int (k0 + ((i : Nat) : Int)) tk, x2], .cons ⟨_, rfl⟩ (.cons ru .nil), ⟨_, hT2, rfl, _, rfl⟩⟩
    have I1 : Inv X pins σ (upd H s.heap.objs.size (.tup [.int (k0 + ((i : Nat) : Int)), x])) { s with heap := h'', toks := tk + 1 } :=
      I.turnedNew (ch := [e, it]) (fun b ob hb q => (sb.2 b (fun z => hb (by simp [z]))).trans (hk b ob (fun z => hb (by simp [z])) (fun z => hb (by simp [z])) q)) hf (Nat.le_refl _) new
    refine ⟨.ref s.heap.objs.size, _, I1, rfl, ⟨_, x, rfl, I.hok.fresh (Nat.le_refl _), rfl, fun ys hy => by rw [I.tuple_inj hy hq]; exact hx⟩, ⟨⟨x2, ?_⟩, hst.1.at fun o q => (sb.2 it (Ne.symm hne)).trans q, hne, hai, hae⟩, fun b hb => ?_⟩
    · have e1 : k0 + ((i + 1 : Nat) : Int) = k0 + (i : Int) + 1 := by omega
      rw [e1]; exact he'
    · have hb' : b < s.heap.objs.size := by
        have e' : b = e ∨ b = it := by simpa using hb
        rcases e' with z | z
        · rw [z]; exact hel
        · rw [z]; exact hil
      rw [upd_ne (Nat.ne_of_lt hb')]
      exact (hf b hb).1
  done := by
    intro X hP hw hK hc i pins s σ H E I hf st hg
    subst hP hw hK
    obtain ⟨⟨old, he⟩, hit, hne, hai, hae⟩ := st
    obtain ⟨xs, hq, hx⟩ := hg
    obtain ⟨its, rv, p, hz⟩ := I.tuple hq
    obtain ⟨f0, f1, f2, f3, f4, f5⟩ := hf it (by simp)
    have hh : X.A.in1.handled = none := I.ok.hd hc
    have p' : s.heap.IsTuple a its.toArray := p
    have hn : its.toArray.size = i := by rw [List.size_toArray, ← rv.length, hx]
    subst hn
    exact wpAny_pyNext_enum_endD (Draws.tuple hh it a hai its.toArray) he ⟨hit, p'⟩ fun h' eb => ⟨rfl, I.turned (t' := s.toks) (fun b o hb q => eb b o hb q) f0 f1 f3 f4 f5⟩
  self := fun A i s Q E st h => let ⟨⟨_, he⟩, _⟩ := st; wpAny_pyIter_enum he h
theorem walk_enumT {K : PySem.W.Frag} {a : Addr} {xs : List V} {k0 : Int} : Walk (IteT K a k0) xs.length (fun H => SqT K H a xs) (YPair (fun i => some (.int (k0 + (i : Int)))) (fun i => xs[i]?)) where
  goes := fun i H hi h => ⟨xs, xs[i], h, List.getElem?_eq_getElem hi⟩
  stops := fun H h => ⟨xs, h, rfl⟩
  yields := fun i H v H' _ h ⟨T, x, e1, e2, e3, e4⟩ => ⟨T, _, x, e1, e2, e3, rfl, e4 xs h⟩
/-- enumerate of a list, counted from k0 -/
def IteL (K : PySem.W.Frag) (a : Addr) (k0 : Int) : It :=
  ⟨fun i H => ∃ (xs : List V) (x : V), SqL K H a xs ∧ xs[i]? = some x, fun i H v H' => ∃ T x, v = .ref T ∧ H T = none ∧ H' = upd H T (.tup [.int (k0 + ((i : Nat) : Int)), x]) ∧ ∀ xs, SqL K H a xs → xs[i]? = some x, fun i H => ∃ xs : List V, SqL K H a xs ∧ xs.length = i⟩
theorem turn_enumL {P : Program} {w : World} {K : PySem.W.Frag} {elts : List Expr} {kk : Nat} {tpos : Pos} (a e it : Addr) (k0 : Int) :
    Turn P w K (.Tuple elts kk tpos) (IteL K a k0) [e, it] e (fun i h => (∃ old, IsEnum h e it (k0 + ((i : Nat) : Int)) old) ∧ h.IsListIter it a i ∧ e ≠ it ∧ a ≠ it ∧ a ≠ e) where
  mem := by simp
  obj := fun i h st b hb => by
    obtain ⟨⟨old, he⟩, ⟨o, ho, hc, hd⟩, _⟩ := st
    have e' : b = e ∨ b = it := by simpa using hb
    rcases e' with z | z
    · rw [z]; exact ⟨_, he, fun v q => nomatch q⟩
    · rw [z]; exact ⟨o, ho, fun v q => by rw [hd] at q; cases q⟩
  keep := fun i h h' st k => let ⟨⟨old, he⟩, hi, hne⟩ := st; ⟨⟨old, k e (by simp) _ he⟩, hi.at fun o q => k it (by simp) o q, hne⟩
  item := by
    intro X hP hw hK hc i pins s σ H E I hf st hg
    subst hP hw hK
    obtain ⟨⟨old, he⟩, hit, hne, hai, hae⟩ := st
    obtain ⟨xs, x, hq, hx⟩ := hg
    obtain ⟨its, rv, p, hz⟩ := I.list hq
    obtain ⟨u, hu, ru⟩ := rv.get hx
    have hel : e < s.heap.objs.size := Heap.lt_size he
    have hil : it < s.heap.objs.size := by obtain ⟨_, q, _⟩ := hit; exact Heap.lt_size q
    have hh : X.A.in1.handled = none := I.ok.hd hc
    have p' : s.heap.IsList a its.toArray := p.isList
    have hlt : i < its.toArray.size := by
      have h1 := rv.length
      have h2 : i < xs.length := (List.getElem?_eq_some_iff.mp hx).1
      rw [List.size_toArray]; omega
    refine wpAny_pyNext_enum_itemC (Draws.list hh it a hai its.toArray) he ⟨hit, p'⟩ hlt hne (by
      intro z
      have z' : e = it ∨ e = a := by simpa using z
      rcases z' with z | z
      · exact hne z
      · exact hae z.symm) fun x2 h' tk hx2 ho hst hT hsz hk => ?_
    have ex2 : x2 = u := by
      have h1 : its.toArray[i]? = some x2 := hx2
      rw [List.getElem?_toArray, hu] at h1
      exact (Option.some.inj h1).symm
    subst ex2
    refine ⟨_, rfl, wpAny_letOwnedTupleGo_enum (s := { s with heap := h', toks := tk + 1 }) ho fun h'' he' sb => ?_⟩
    have hT2 : h''.get? s.heap.objs.size = some { cls := .type "tuple", data := .seq #[.int (k0 + ((i : Nat) : Int)) tk, x2] } := (sb.2 _ (Nat.ne_of_gt hel)).trans hT
    have new : ObjOk X.prog X.w (upd H s.heap.objs.size (.tup [.int (k0 + ((i : Nat) : Int)), x])) h'' s.heap.objs.size (.tup [.int (k0 + ((i : Nat) : Int)), x]) :=
      ⟨by show 2 ≤ sizeLine; decide, [.int (k0 + ((i : Nat) : Int)) tk, x2], .cons ⟨_, rfl⟩ (.cons ru .nil), ⟨_, hT2, rfl, _, rfl⟩⟩
    have I1 : Inv X pins σ (upd H s.heap.objs.size (.tup [.int (k0 + ((i : Nat) : Int)), x])) { s with heap := h'', toks := tk + 1 } :=
      I.turnedNew (ch := [e, it]) (fun b ob hb q => (sb.2 b (fun z => hb (by simp [z]))).trans (hk b ob (fun z => hb (by simp [z])) (fun z => hb (by simp [z])) q)) hf (Nat.le_refl _) new
    refine ⟨.ref s.heap.objs.size, _, I1, rfl, ⟨_, x, rfl, I.hok.fresh (Nat.le_refl _), rfl, fun ys hy => by rw [I.list_inj hy hq]; exact hx⟩, ⟨⟨x2, ?_⟩, hst.1.at fun o q => (sb.2 it (Ne.symm hne)).trans q, hne, hai, hae⟩, fun b hb => ?_⟩
    · have e1 : k0 + ((i + 1 : Nat) : Int) = k0 + (i : Int) + 1 := by omega
      rw [e1]; exact he'
    · have hb' : b < s.heap.objs.size := by
        have e' : b = e ∨ b = it := by simpa using hb
        rcases e' with z | z
        · rw [z]; exact hel
        · rw [z]; exact hil
      rw [upd_ne (Nat.ne_of_lt hb')]
      exact (hf b hb).1
  done := by
    intro X hP hw hK hc i pins s σ H E I hf st hg
    subst hP hw hK
    obtain ⟨⟨old, he⟩, hit, hne, hai, hae⟩ := st
    obtain ⟨xs, hq, hx⟩ := hg
    obtain ⟨its, rv, p, hz⟩ := I.list hq
    obtain ⟨f0, f1, f2, f3, f4, f5⟩ := hf it (by simp)
    have hh : X.A.in1.handled = none := I.ok.hd hc
    have p' : s.heap.IsList a its.toArray := p.isList
    have hn : its.toArray.size = i := by rw [List.size_toArray, ← rv.length, hx]
    subst hn
    exact wpAny_pyNext_enum_endD (Draws.list hh it a hai its.toArray) he ⟨hit, p'⟩ fun h' eb => ⟨rfl, I.turned (t' := s.toks) (fun b o hb q => eb b o hb q) f0 f1 f3 f4 f5⟩
  self := fun A i s Q E st h => let ⟨⟨_, he⟩, _⟩ := st; wpAny_pyIter_enum he h
theorem walk_enumL {K : PySem.W.Frag} {a : Addr} {xs : List V} {k0 : Int} : Walk (IteL K a k0) xs.length (fun H => SqL K H a xs) (YPair (fun i => some (.int (k0 + (i : Int)))) (fun i => xs[i]?)) where
  goes := fun i H hi h => ⟨xs, xs[i], h, List.getElem?_eq_getElem hi⟩
  stops := fun H h => ⟨xs, h, rfl⟩
  yields := fun i H v H' _ h ⟨T, x, e1, e2, e3, e4⟩ => ⟨T, _, x, e1, e2, e3, rfl, e4 xs h⟩
/-- enumerate(v) where iter(v) is known -/
theorem enum_new1 {v : Value} {o : Obj} {Hh : Heap → Prop} (B : Begins v o Hh) :
    Meets (Builtin.«enumerate.__new__» ⟨[.type "enumerate", v], []⟩) (fun _ R s => Hh s.heap ∧
      R (.ok (.ret (.ref (s.heap.push o).objs.size))) { s with heap := (s.heap.push o).push { cls := .type "enumerate", data := .fields #[.none, .bool false, .ref s.heap.objs.size, rawInt 0, .none, .none] } }) :=
  .of_wp fun prog w A R s h => by
    obtain ⟨hp, g, d, tk, os⟩ := s; obtain ⟨h1, h⟩ := h
    have hsub := sub_enumerate
    have q1 : ∀ {A' : Around} {E : Value → Shared → Prop} {Q : Value → Shared → Prop}, Q (.ref hp.objs.size) ⟨hp.push o, g, d, tk, os⟩ → wpAny (model prog w) A' (pyIter v) Q E ⟨hp, g, d, tk, os⟩ :=
      fun q => B.iter prog w _ _ ⟨hp, g, d, tk, os⟩ _ h1 q
    wp_walk using q1
    refine wpAny_stack_any fun st => wpAny_pure ?_
    split
    · rename_i c _ _ _ _ _
      cases (c == Value.type "enumerate")
      · wp_walk using q1
        exact ⟨_, rfl, h⟩
      · wp_walk using q1
        exact ⟨_, rfl, h⟩
    · wp_walk using q1
      exact ⟨_, rfl, h⟩
theorem enum_begins1 {prog : Program} {w : World} {A : Around} {E : Value → Shared → Prop} {s : Shared} {v : Value} {o : Obj} {Hh : Heap → Prop} {Q : Value → Shared → Prop} (B : Begins v o Hh) (h1 : Hh s.heap)
    (h : ∀ h', IsEnum h' (s.heap.objs.size + 1) s.heap.objs.size 0 .none → h'.get? s.heap.objs.size = some o → h'.objs.size = s.heap.objs.size + 2 →
      (∀ b o, s.heap.get? b = some o → h'.get? b = some o) → Q (.ref (s.heap.objs.size + 1)) { s with heap := h' }) :
    wpAny (model prog w) A (call (.type "enumerate") [v]) Q E s := by
  refine callType_new F.called_enumerate (by decide) (F.typeCall_enumerate_1 _) (F.newCall_enumerate_1 _) (fun obj => F.args_object_init_2 obj _) F.entry_enumerate_new
    (enum_new1 B) ⟨h1, ?_⟩
  have hz : (s.heap.push o).objs.size = s.heap.objs.size + 1 := Heap.size_push ..
  show _ ∧ _
  rw [hz]
  have he : IsEnum ((s.heap.push o).push { cls := .type "enumerate", data := .fields #[.none, .bool false, .ref s.heap.objs.size, rawInt 0, .none, .none] }) (s.heap.objs.size + 1) s.heap.objs.size 0 .none := by
    have := Heap.get?_push_size (s.heap.push o) (o := { cls := .type "enumerate", data := .fields #[.none, .bool false, .ref s.heap.objs.size, rawInt 0, .none, .none] }) rfl
    rw [hz] at this; exact this
  refine ⟨⟨_, he, rfl⟩, h _ he (Heap.get?_push_of_some _ (Heap.get?_push_size _ B.free)) (by rw [Heap.size_push, hz]) fun b o x => Heap.get?_push_of_some _ (Heap.get?_push_of_some _ x)⟩
/-- enumerate(a tuple) -/
def iEnumT (K : PySem.W.Frag) (ta : TA) : TI := fun σ H R => ta σ H fun vs H1 => ∃ a xs, vs = [.ref a] ∧ SqT K H1 a xs ∧ R (IteT K a 0) H1
theorem pi_enumT {X : Cx} {e : Expr} {ta : TA} {p pos tpos : Pos} {elts : List Expr} {kk : Nat} (hg : Gl X "enumerate") (hm : X.mg "enumerate" = none) (ha : PA X [e] ta) (hs : starEach [e] X.env = [(false, eval e X.env)] := by rfl) :
    PI X (.Tuple elts kk tpos) (.Call (.Name "enumerate" p) [e] [] pos) (iEnumT X.K ta) := by
  refine ⟨fun pins s σ H R I h => ?_⟩
  refine Call_ (ld_blt I hg hm boot_enumerate (PyProof.Rows.callWith_type1 (thn (ha.run pos pins s σ H _ I h) fun us s1 ⟨vs, H1, I1, r1, q1⟩ => ?_) hs rfl))
  obtain ⟨a, xs, ex, hq, q⟩ := q1
  subst ex
  cases r1 with
  | cons r rr =>
    cases rr
    cases r
    obtain ⟨its, rv, p', hz⟩ := I1.tuple hq
    have p2 : s1.heap.IsTuple a its.toArray := p'
    obtain ⟨o2, ho2, _⟩ := id p2
    have hal : a < s1.heap.objs.size := Heap.lt_size ho2
    refine enum_begins1 (begins_tuple a its.toArray) p2 fun h' he hit hsz hk => wpAny_pyIter_enum he ?_
    have I2 : Inv X pins σ H1 { s1 with heap := h' } := I1.kept (t' := s1.toks) hk
    refine ⟨s1.heap.objs.size + 1, [s1.heap.objs.size + 1, s1.heap.objs.size], _, _, H1, rfl, I2, turn_enumT a (s1.heap.objs.size + 1) s1.heap.objs.size 0, ⟨⟨.none, by simpa using he⟩, ⟨_, hit, rfl, rfl⟩, Nat.succ_ne_self _, Nat.ne_of_lt hal, Nat.ne_of_lt (Nat.lt_succ_of_lt hal)⟩, fun b hb => ?_, q⟩
    have e' : b = s1.heap.objs.size + 1 ∨ b = s1.heap.objs.size := by simpa using hb
    have hle : s1.heap.objs.size ≤ b := by
      rcases e' with z | z
      · rw [z]; exact Nat.le_add_right _ _
      · rw [z]; exact Nat.le_refl _
    exact I1.fpOk hle (I1.hok.fresh hle)
/-- enumerate(a list, k) -/
def iEnumL (K : PySem.W.Frag) (ta : TA) : TI := fun σ H R => ta σ H fun vs H1 => ∃ (a : Addr) (xs : List V) (k0 : Int), vs = [.ref a, .int k0] ∧ 0 ≤ k0 ∧ k0 ≤ 1000 ∧ SqL K H1 a xs ∧ R (IteL K a k0) H1
theorem pi_enumL {X : Cx} {e e2 : Expr} {ta : TA} {p pos tpos : Pos} {elts : List Expr} {kk : Nat} (hg : Gl X "enumerate") (hm : X.mg "enumerate" = none) (ha : PA X [e, e2] ta)
    (hs : starEach [e, e2] X.env = (false, eval e X.env) :: starEach [e2] X.env := by rfl) (hpl : (backTo pos (starEach [e2] X.env)).any (·.1) = false := by rfl) :
    PI X (.Tuple elts kk tpos) (.Call (.Name "enumerate" p) [e, e2] [] pos) (iEnumL X.K ta) := by
  refine ⟨fun pins s σ H R I h => ?_⟩
  refine Call_ (ld_blt I hg hm boot_enumerate (PyProof.Rows.callWith_type1 (thn (ha.run pos pins s σ H _ I h) fun us s1 ⟨vs, H1, I1, r1, q1⟩ => ?_) hs hpl))
  obtain ⟨a, xs, k0, ex, hk0, hk1, hq, q⟩ := q1
  subst ex
  cases r1 with
  | cons r rr =>
    cases rr with
    | cons r' rr =>
      cases rr
      cases r
      obtain ⟨t, rfl⟩ := r'
      obtain ⟨its, rv, p', hz⟩ := I1.list hq
      have p2 : s1.heap.IsList a its.toArray := p'.isList
      obtain ⟨o2, ho2, _⟩ := id p2
      have hal : a < s1.heap.objs.size := Heap.lt_size ho2
      refine enum_begins (begins_list a its.toArray) p2 (by omega) (by omega) fun h' he hit hsz hk => wpAny_pyIter_enum he ?_
      have I2 : Inv X pins σ H1 { s1 with heap := h' } := I1.kept (t' := s1.toks) hk
      refine ⟨s1.heap.objs.size + 1, [s1.heap.objs.size + 1, s1.heap.objs.size], _, _, H1, rfl, I2, turn_enumL a (s1.heap.objs.size + 1) s1.heap.objs.size k0, ⟨⟨.none, by simpa using he⟩, ⟨_, hit, rfl, rfl⟩, Nat.succ_ne_self _, Nat.ne_of_lt hal, Nat.ne_of_lt (Nat.lt_succ_of_lt hal)⟩, fun b hb => ?_, q⟩
      have e' : b = s1.heap.objs.size + 1 ∨ b = s1.heap.objs.size := by simpa using hb
      have hle : s1.heap.objs.size ≤ b := by
        rcases e' with z | z
        · rw [z]; exact Nat.le_add_right _ _
        · rw [z]; exact Nat.le_refl _
      exact I1.fpOk hle (I1.hok.fresh hle)
/-- zip of two tuples -/
theorem walk_zipT {K : PySem.W.Frag} {a b : Addr} {xs ys : List V} {n : Nat} (hn : n = min xs.length ys.length) : Walk (RZ.ItzT K a b) n (fun H => SqT K H a xs ∧ SqT K H b ys) (YPair (fun i => xs[i]?) (fun i => ys[i]?)) where
  goes := fun i H hi h => ⟨xs, ys, xs[i]'(by omega), ys[i]'(by omega), h.1, h.2, List.getElem?_eq_getElem _, List.getElem?_eq_getElem _⟩
  stops := fun H h => ⟨xs, ys, h.1, h.2, by omega⟩
  yields := fun i H v H' _ h ⟨T, x, y, e1, e2, e3, e4, e5⟩ => ⟨T, x, y, e1, e2, e3, e4 xs h.1, e5 ys h.2⟩
end K45

namespace K45
open PySem PySem.Spec PyProof.Rows L2
/-! ### heaps -/
theorem same_extN {H H' : Hp} (e : Same H H') : LamX.ExtN H H' := fun b o h _ => e b o h
theorem same_del {H H' : Hp} (a : Addr) (e : Same H H') : Same (del H a) (del H' a) := fun b o h => by
  by_cases hb : b = a
  · rw [hb, del_same] at h; cases h
  · rw [del_ne hb] at h ⊢; exact e b o h
theorem del_sub (H : Hp) (a : Addr) : Same (del H a) H := fun b o h => by
  by_cases hb : b = a
  · rw [hb, del_same] at h; cases h
  · rw [del_ne hb] at h; exact h
theorem same_to_del {H H' : Hp} {a : Addr} (e : Same H H') (n : H a = none) : Same H (del H' a) := fun b o h => by
  rw [del_ne (ne_of_none h n)]
  exact e b o h
theorem same_upd {H : Hp} {p : Addr} {o : HO} (n : H p = none) : Same H (upd H p o) := fun b u h => by
  rw [upd_ne (ne_of_none h n)]
  exact h
theorem del_upd {H : Hp} {p : Addr} {o : HO} : del (upd H p o) p = del H p := by
  funext b
  by_cases hb : b = p
  · rw [hb, del_same, del_same]
  · rw [del_ne hb, del_ne hb, upd_ne hb]
theorem del_upd_ne {H : Hp} {p a : Addr} {o : HO} (hp : p ≠ a) : del (upd H p o) a = upd (del H a) p o := by
  funext b
  by_cases hb : b = a
  · rw [hb, del_same, upd_ne (Ne.symm hp), del_same]
  · by_cases hq : b = p
    · rw [hq, del_ne hp, upd_same, upd_same]
    · rw [del_ne hb, upd_ne hq, upd_ne hq, del_ne hb]
theorem extN_del {H H' : Hp} (a : Addr) (e : LamX.ExtN H H') : LamX.ExtN (del H a) (del H' a) := fun b o h nt => by
  by_cases hb : b = a
  · rw [hb, del_same] at h; cases h
  · rw [del_ne hb] at h ⊢; exact e b o h nt
section
variable {K : PySem.W.Frag} {H H' : Hp}
theorem rd_extN {a : Addr} {o : HO} (e : LamX.ExtN H H') (nt : ∀ ps, o ≠ .tbl ps) (h : Rd H a o) : Rd H' a o := by
  rcases h with h | ⟨ob, h⟩
  · exact .inl (e _ _ h nt)
  · exact .inr ⟨ob, e _ _ h fun ps z => by cases z⟩
theorem sqL_ext {a : Addr} {xs : List V} (e : LamX.ExtN H H') (h : SqL K H a xs) : SqL K H' a xs := by
  rcases h with h | h
  · exact .inl (rd_extN e (fun ps z => by cases z) h)
  · exact .inr h
theorem sqT_ext {a : Addr} {xs : List V} (e : LamX.ExtN H H') (h : SqT K H a xs) : SqT K H' a xs := by
  rcases h with h | h
  · exact .inl (rd_extN e (fun ps z => by cases z) h)
  · exact .inr h
mutual
theorem dp_extN (e : LamX.ExtN H H') : ∀ (d : PyData) (v : V), Dp K H v d → Dp K H' v d
  | .none, _, h => by cases h; exact .non
  | .bool b, _, h => by cases h; exact .bl b
  | .int i, _, h => by cases h; exact .int i
  | .str x, _, h => by cases h; exact .str x
  | .list ds, _, h => by
    cases h with
    | lst s r => exact .lst (sqL_ext e s) (dpAll_extN e ds _ r)
  | .tuple ds, _, h => by
    cases h with
    | tup s r => exact .tup (sqT_ext e s) (dpAll_extN e ds _ r)
  | .dict _, _, h => by cases h
theorem dpAll_extN (e : LamX.ExtN H H') : ∀ (ds : List PyData) (vs : List V), DpAll K H vs ds → DpAll K H' vs ds
  | [], _, h => by cases h; exact .nil
  | d :: ds, _, h => by
    cases h with
    | cons a b => exact .cons (dp_extN e d _ a) (dpAll_extN e ds _ b)
end
theorem dp_ext {d : PyData} {v : V} (e : Same H H') (h : Dp K H v d) : Dp K H' v d := dp_extN (same_extN e) d v h
theorem dpAll_ext {ds : List PyData} {vs : List V} (e : Same H H') (h : DpAll K H vs ds) : DpAll K H' vs ds := dpAll_extN (same_extN e) ds vs h
/-! ### data at values -/
theorem dp_int {v : V} {i : Int} (h : Dp K H v (.int i)) : v = .int i := by cases h; rfl
theorem dp_str {v : V} {x : Str} (h : Dp K H v (.str x)) : v = .str x := by cases h; rfl
theorem dp_bl {v : V} {x : Bool} (h : Dp K H v (.bool x)) : v = .bl x := by cases h; rfl
theorem dp_non {v : V} (h : Dp K H v .none) : v = .non := by cases h; rfl
theorem dp_tup {v : V} {ds : List PyData} (h : Dp K H v (.tuple ds)) : ∃ a xs, v = .ref a ∧ SqT K H a xs ∧ DpAll K H xs ds := by
  cases h with
  | tup s r => exact ⟨_, _, rfl, s, r⟩
theorem dp_lst {v : V} {ds : List PyData} (h : Dp K H v (.list ds)) : ∃ a xs, v = .ref a ∧ SqL K H a xs ∧ DpAll K H xs ds := by
  cases h with
  | lst s r => exact ⟨_, _, rfl, s, r⟩
theorem dpAll_len : ∀ {ds : List PyData} {vs : List V}, DpAll K H vs ds → vs.length = ds.length
  | [], _, h => by cases h; rfl
  | d :: ds, _, h => by
    cases h with
    | cons a b => rw [List.length_cons, List.length_cons, dpAll_len b]
theorem dpAll_get : ∀ {ds : List PyData} {vs : List V} {i : Nat} {v : V}, DpAll K H vs ds → vs[i]? = some v → ∃ d, ds[i]? = some d ∧ Dp K H v d
  | [], _, _, _, h, e => by cases h; simp at e
  | d :: ds, _, 0, v, h, e => by
    cases h with
    | cons a b =>
      simp at e
      subst e
      exact ⟨d, rfl, a⟩
  | d :: ds, _, i + 1, v, h, e => by
    cases h with
    | cons a b =>
      obtain ⟨d', e1, e2⟩ := dpAll_get (i := i) (v := v) b (by simpa using e)
      exact ⟨d', by simpa using e1, e2⟩
theorem dpAll_at {ds : List PyData} {vs : List V} {i : Nat} {d : PyData} (h : DpAll K H vs ds) (e : ds[i]? = some d) : ∃ v, vs[i]? = some v ∧ Dp K H v d := by
  have h1 : i < ds.length := (List.getElem?_eq_some_iff.mp e).1
  have h2 : i < vs.length := by rw [dpAll_len h]; exact h1
  obtain ⟨d', e1, e2⟩ := dpAll_get h (List.getElem?_eq_getElem h2)
  rw [e] at e1
  cases e1
  exact ⟨_, List.getElem?_eq_getElem h2, e2⟩
theorem dpAll_app : ∀ {ds es : List PyData} {vs us : List V}, DpAll K H vs ds → DpAll K H us es → DpAll K H (vs ++ us) (ds ++ es)
  | [], _, _, _, h, r => by cases h; exact r
  | d :: ds, _, _, _, h, r => by
    cases h with
    | cons a b => exact .cons a (dpAll_app b r)
theorem dpAll_ints : ∀ {ns : List Int} {vs : List V}, DpAll K H vs (ns.map PyData.int) → vs = ns.map V.int
  | [], _, h => by cases h; rfl
  | n :: ns, _, h => by
    cases h with
    | cons a b => rw [dp_int a, dpAll_ints b]; rfl
theorem ints_dpAll : ∀ (ns : List Int), DpAll K H (ns.map V.int) (ns.map PyData.int)
  | [] => .nil
  | n :: ns => .cons (.int n) (ints_dpAll ns)
theorem dpAll_strs : ∀ {ns : List Str} {vs : List V}, DpAll K H vs (ns.map PyData.str) → vs = ns.map V.str
  | [], _, h => by cases h; rfl
  | n :: ns, _, h => by
    cases h with
    | cons a b => rw [dp_str a, dpAll_strs b]; rfl
theorem strs_dpAll : ∀ (ns : List Str), DpAll K H (ns.map V.str) (ns.map PyData.str)
  | [] => .nil
  | n :: ns => .cons (.str n) (strs_dpAll ns)
theorem dpAll_bls : ∀ {ns : List Bool} {vs : List V}, DpAll K H vs (ns.map PyData.bool) → vs = ns.map V.bl
  | [], _, h => by cases h; rfl
  | n :: ns, _, h => by
    cases h with
    | cons a b => rw [dp_bl a, dpAll_bls b]; rfl
/-- a new tuple, list of data -/
theorem tup_new {p : Addr} {xs : List V} {ds : List PyData} (n : H p = none) (h : DpAll K H xs ds) : Dp K (upd H p (.tup xs)) (.ref p) (.tuple ds) := .tup (SqT.of upd_same) (dpAll_ext (same_upd n) h)
theorem lst_new {p : Addr} {xs : List V} {ds : List PyData} (n : H p = none) (h : DpAll K H xs ds) : Dp K (upd H p (.lst xs)) (.ref p) (.list ds) := .lst (SqL.of upd_same) (dpAll_ext (same_upd n) h)
end
/-! ### a comprehension that makes data item by item -/
theorem lc_dp {K : PySem.W.Frag} {J : It} {n : Nat} {G : Hp → Prop} {Y : Nat → Hp → V → Hp → Prop} (w : Walk J n G Y) {g : TG} {te : TE} {vs : List Nat} {σ : L2.St} {H1 : Hp} {a : Addr} {Qd : Hp → Prop} (ds : List PyData) (hn : ds.length = n) (hz : n ≤ sizeLine) (hD : H1 a = none)
    (hG : ∀ H, Same H1 (del H a) → G H) (hY : ∀ i H x H', Y i H x H' → Same H H')
    (hs : ∀ (i : Nat) (x : V) (H H' : Hp) (d : PyData) (Qc : VK), ds[i]? = some d → Same H1 (del H a) → (∃ acc, H a = some (.lst acc)) → Y i H x H' → (∀ y H4, Same H' H4 → Dp K (del H4 a) y d → Qc y H4) →
      g x (wipe σ vs) H' fun σ2 H2 => wipe σ2 vs = wipe σ vs ∧ te σ2 H2 Qc)
    (hd : ∀ H ys, Same H1 (del H a) → H a = some (.lst ys) → DpAll K (del H a) ys ds → Qd H) :
    ∃ W : Nat → Nat → Hp → Prop, (∃ m, W 0 m (upd H1 a (.lst []))) ∧ ∀ i m H, W i m H →
      (J.stop i H ∧ Qd H) ∨ (J.go i H ∧ ∃ Nx : Hp → Prop, (∀ H', Nx H' → ∃ m', m' < m ∧ W (i + 1) m' H') ∧ ∀ x H', J.yld i H x H' → g x (wipe σ vs) H' fun σ2 H2 => wipe σ2 vs = wipe σ vs ∧ tYes σ2 H2 fun b H3 =>
        if b = true then te σ2 H3 fun y H4 => ∃ acc, H4 a = some (.lst acc) ∧ acc.length < sizeLine ∧ Nx (upd H4 a (.lst (acc ++ [y]))) else Nx H3) := by
  refine lc_it w (fun i H => Same H1 (del H a) ∧ ∃ ys, H a = some (.lst ys) ∧ DpAll K (del H a) ys (ds.take i)) ⟨?_, [], upd_same, .nil⟩ (fun i H _ h => hG H h.1) (fun i x H H' hi h hy => ?_) (fun H h => ?_)
  · rw [del_upd]
    exact same_to_del (Same.refl _) hD
  · obtain ⟨hS, ys, hys, hds⟩ := h
    have hi' : i < ds.length := by omega
    have e1 : ds[i]? = some ds[i] := List.getElem?_eq_getElem hi'
    have S1 := hY i H x H' hy
    have key := hs i x H H' ds[i] (fun y H4 => ∃ acc, H4 a = some (.lst acc) ∧ acc.length < sizeLine ∧ (Same H1 (del (upd H4 a (.lst (acc ++ [y]))) a) ∧ ∃ ys, upd H4 a (.lst (acc ++ [y])) a = some (.lst ys) ∧ DpAll K (del (upd H4 a (.lst (acc ++ [y]))) a) ys (ds.take (i + 1)))) e1 hS ⟨ys, hys⟩ hy (fun y H4 S4 hdp => ?_)
    · have ef : (fun (σ2 : L2.St) (H2 : Hp) => wipe σ2 vs = wipe σ vs ∧ tYes σ2 H2 fun b H3 => if b = true then te σ2 H3 fun y H4 => ∃ acc, H4 a = some (.lst acc) ∧ acc.length < sizeLine ∧ (Same H1 (del (upd H4 a (.lst (acc ++ [y]))) a) ∧ ∃ ys, upd H4 a (.lst (acc ++ [y])) a = some (.lst ys) ∧ DpAll K (del (upd H4 a (.lst (acc ++ [y]))) a) ys (ds.take (i + 1))) else (Same H1 (del H3 a) ∧ ∃ ys, H3 a = some (.lst ys) ∧ DpAll K (del H3 a) ys (ds.take (i + 1)))) =
          (fun (σ2 : L2.St) (H2 : Hp) => wipe σ2 vs = wipe σ vs ∧ te σ2 H2 fun y H4 => ∃ acc, H4 a = some (.lst acc) ∧ acc.length < sizeLine ∧ (Same H1 (del (upd H4 a (.lst (acc ++ [y]))) a) ∧ ∃ ys, upd H4 a (.lst (acc ++ [y])) a = some (.lst ys) ∧ DpAll K (del (upd H4 a (.lst (acc ++ [y]))) a) ys (ds.take (i + 1)))) := by
        funext σ2 H2
        refine congrArg (And _) ?_
        unfold tYes
        dsimp only
        rw [if_pos rfl]
      rw [ef]
      exact key
    · have S5 : Same H H4 := S1.trans S4
      have hlen : ys.length = i := by rw [dpAll_len hds, List.length_take]; omega
      refine ⟨ys, S5 _ _ hys, by omega, ?_, _, upd_same, ?_⟩
      · rw [del_upd]
        exact hS.trans (same_del a S5)
      · rw [del_upd, List.take_add_one, e1]
        exact dpAll_app (dpAll_ext (same_del a S5) hds) (.cons hdp .nil)
  · obtain ⟨hS, ys, hys, hds⟩ := h
    rw [List.take_of_length_le (by omega)] at hds
    exact hd H ys hS hys hds
theorem yAt_same {xs : List V} : ∀ i H x H', YAt xs i H x H' → Same H H' := fun i H x H' h => by rw [h.1]; exact Same.refl _
theorem yFn_same {f : Nat → V} : ∀ i H x H', YFn f i H x H' → Same H H' := fun i H x H' h => by rw [h.1]; exact Same.refl _
theorem yPair_same {f g : Nat → Option V} : ∀ i H x H', YPair f g i H x H' → Same H H' := fun i H x H' h => by
  obtain ⟨T, x1, y1, _, hT, e, _⟩ := h
  rw [e]
  exact same_upd hT
theorem yStr_same {z : Str} : ∀ i H x H', (fun (i : Nat) (H : Hp) (v : V) (H' : Hp) => H' = H ∧ ∃ c, z.cps[i]? = some c ∧ v = .str ⟨#[c]⟩) i H x H' → Same H H' := fun i H x H' h => by rw [h.1]; exact Same.refl _
end K45

namespace K45
open PySem PySem.Spec PyProof.Rows L2
/-! ### words that are numbers -/
def isDig (c : Nat) : Bool := decide (48 ≤ c) && decide (c ≤ 57)
def numL (l : List Nat) : Bool := (decide (1 ≤ l.length) && decide (l.length ≤ 9) && l.all isDig) && (!decide (l.head? = some 48) || decide (l.length = 1))
def intL (l : List Nat) : Bool := if l.take 1 = [45] then numL (l.drop 1) && !decide (l.drop 1 = [48]) else numL l
/-- the law's own look -/
def lawD (l : List Nat) : List Nat := if l.take 1 = [45] then l.drop 1 else l
def lawL (l : List Nat) : Bool := (decide (1 ≤ (lawD l).length) && decide ((lawD l).length ≤ 9) && (lawD l).all isDig) && !(decide ((lawD l).head? = some 48) && !decide (l = [48]))
def wordB (w : Str) : Bool := intL (TL.tl w)
def wordN (w : Str) : Int := (PySem.intText? w).getD 0
theorem dig_alike (l : List Nat) (h : l.all isDig = true) : NumText.AllDigits l := fun c hc => by
  have := List.all_eq_true.mp h c hc
  unfold isDig at this
  simp only [Bool.and_eq_true, decide_eq_true_eq] at this
  exact this
theorem numL_parts {l : List Nat} (h : numL l = true) : 1 ≤ l.length ∧ l.length ≤ 9 ∧ l.all isDig = true := by
  unfold numL at h
  simp only [Bool.and_eq_true, decide_eq_true_eq] at h
  exact ⟨h.1.1.1, h.1.1.2, h.1.2⟩
theorem len_tl' (w : Str) : (TL.tl w).length = w.length := Array.length_toList
theorem word_int {w : Str} (h : wordB w = true) : PySem.intText? w = some (wordN w) ∧ w.length ≤ 10 := by
  have key : ∃ n, PySem.intText? w = some n ∧ w.length ≤ 10 := by
    unfold wordB intL at h
    have hl := len_tl' w
    split at h
    · rename_i e
      have h1 : numL ((TL.tl w).drop 1) = true := (Bool.and_eq_true_iff.mp h).1
      obtain ⟨a, b, c⟩ := numL_parts h1
      have et : TL.tl w = 45 :: (TL.tl w).drop 1 := by
        have := List.take_append_drop 1 (TL.tl w)
        rw [e] at this
        exact this.symm
      have hlen : (TL.tl w).length = 1 + ((TL.tl w).drop 1).length := by
        rw [List.length_drop]
        rw [List.length_drop] at a
        omega
      exact ⟨_, intText_neg et (dig_alike _ c) (fun z => by rw [z] at a; simp at a) (by omega), by omega⟩
    · obtain ⟨a, b, c⟩ := numL_parts h
      exact ⟨_, intText_digits (dig_alike _ c) (fun z => by rw [show TL.tl w = [] from z] at a; simp at a) (by omega), by omega⟩
  obtain ⟨n, hn, hl⟩ := key
  refine ⟨?_, hl⟩
  unfold wordN
  rw [hn]
  rfl
theorem lawL_eq (l : List Nat) : lawL l = intL l := by
  unfold lawL intL lawD
  by_cases e : l.take 1 = [45]
  · rw [if_pos e, if_pos e]
    have ne : decide (l = [48]) = false := decide_eq_false fun z => by rw [z] at e; cases e
    rw [ne]
    unfold numL
    generalize l.drop 1 = d
    cases d with
    | nil => rfl
    | cons c r =>
      by_cases hc : c = 48
      · subst hc
        cases r with
        | nil => simp [isDig]
        | cons c2 r2 => simp
      · have h1 : decide (List.head? (c :: r) = some 48) = false := decide_eq_false fun z => hc (Option.some.inj z)
        have h2 : decide (c :: r = [48]) = false := decide_eq_false fun z => by
          injection z with z1 _
          exact hc z1
        rw [h1, h2]
        simp
  · rw [if_neg e, if_neg e]
    unfold numL
    cases l with
    | nil => rfl
    | cons c r =>
      by_cases hc : c = 48
      · subst hc
        cases r with
        | nil => simp
        | cons c2 r2 => simp
      · have h1 : decide (List.head? (c :: r) = some 48) = false := decide_eq_false fun z => hc (Option.some.inj z)
        rw [h1]
        simp
/-! ### lines -/
def sBox : Str := "box"
def sSp : Str := " "
def sNl : Str := "\n"
def sLv : Str := "level"
def sUp : Str := "upright"
abbrev wordsOf (line : Str) : List Str := Txt.split line sSp
abbrev linesOf (text : Str) : List Str := Txt.split text sNl
def manyOk (many : Option Nat) (n : Nat) : Bool := match many with
  | none => true
  | some m => decide (n = m)
def rowOk (wl : List Str) (many : Option Nat) (ws : List Str) : Bool := decide (ws.headD Str.empty ∈ wl) && (ws.tail.all wordB && (decide (0 < ws.tail.length) && manyOk many ws.tail.length))
abbrev Row : Type := Str × List Int
def rowOf (wl : List Str) (many : Option Nat) (line : Str) : Option Row :=
  if rowOk wl many (wordsOf line) = true then some ((wordsOf line).headD Str.empty, (wordsOf line).tail.map wordN) else none
def reads {α : Type} (f : Str → Option α) (ls : List Str) : Nat ⊕ List α := match ls.dropLast.findIdx? (fun l => (f l).isNone) with
  | some i => .inl (i + 1)
  | none => if ls.getLast? = some Str.empty then .inr (ls.dropLast.filterMap f) else .inl ls.length
section
variable {α : Type} {f : Str → Option α} {ls : List Str}
theorem reads_bad {i : Nat} {l : Str} (h : ls.dropLast[i]? = some l) (hb : f l = none) (ha : ∀ j l', j < i → ls.dropLast[j]? = some l' → f l' ≠ none) : reads f ls = .inl (i + 1) := by
  have e : ls.dropLast.findIdx? (fun l => (f l).isNone) = some i := by
    obtain ⟨hi, e⟩ := List.getElem?_eq_some_iff.mp h
    rw [List.findIdx?_eq_some_iff_getElem]
    refine ⟨hi, by rw [e, hb]; rfl, fun j hj z => ?_⟩
    have hj' : j < ls.dropLast.length := by omega
    have := ha j _ hj (List.getElem?_eq_getElem hj')
    exact this (Option.isNone_iff_eq_none.mp z)
  unfold reads
  rw [e]
theorem none_bad (ha : ∀ j l', j < ls.dropLast.length → ls.dropLast[j]? = some l' → f l' ≠ none) : ls.dropLast.findIdx? (fun l => (f l).isNone) = none := by
  rw [List.findIdx?_eq_none_iff]
  intro x hx
  obtain ⟨j, hj, e⟩ := List.mem_iff_getElem.mp hx
  have := ha j x hj (by rw [List.getElem?_eq_getElem hj, e])
  cases q : f x with
  | none => exact absurd q this
  | some a => rfl
theorem reads_last (ha : ∀ j l', j < ls.dropLast.length → ls.dropLast[j]? = some l' → f l' ≠ none) (hl : ls.getLast? ≠ some Str.empty) : reads f ls = .inl ls.length := by
  unfold reads
  rw [none_bad ha, if_neg hl]
theorem reads_ok (ha : ∀ j l', j < ls.dropLast.length → ls.dropLast[j]? = some l' → f l' ≠ none) (hl : ls.getLast? = some Str.empty) : reads f ls = .inr (ls.dropLast.filterMap f) := by
  unfold reads
  rw [none_bad ha, if_pos hl]
theorem filter_next {l : List Str} {i : Nat} {x : Str} {a : α} (h : l[i]? = some x) (e : f x = some a) : (l.take (i + 1)).filterMap f = (l.take i).filterMap f ++ [a] := by
  rw [List.take_add_one, h, List.filterMap_append]
  simp [e]
end
/-! ### pictures -/
abbrev II : Type := Int × Int
def sizeOk (s : II) : Bool := (decide (1 ≤ s.1) && decide (s.1 ≤ 1000)) && (decide (1 ≤ s.2) && decide (s.2 ≤ 1000))
/-- the law's look: whether two boxes lie apart -/
def apart (one other place placeo : II) : Bool := (decide (placeo.1 + other.1 ≤ place.1) || decide (place.1 + one.1 ≤ placeo.1)) || (decide (placeo.2 + other.2 ≤ place.2) || decide (place.2 + one.2 ≤ placeo.2))
def meetB (b l ob ol : Int) : Bool := decide (b < ob + ol) && decide (ob < b + l)
/-- the program's look -/
def ovB (s1 s2 p1 p2 : II) : Bool := meetB p1.2 s1.2 p2.2 s2.2 && meetB p1.1 s1.1 p2.1 s2.1
theorem ov_apart (s1 s2 p1 p2 : II) : ovB s1 s2 p1 p2 = !apart s2 s1 p2 p1 := by
  unfold ovB apart meetB
  have e1 : decide (p1.1 + s1.1 ≤ p2.1) = !decide (p2.1 < p1.1 + s1.1) := by
    by_cases h : p2.1 < p1.1 + s1.1
    · rw [decide_eq_true h, decide_eq_false (by omega)]; rfl
    · rw [decide_eq_false h, decide_eq_true (by omega)]; rfl
  have e2 : decide (p2.1 + s2.1 ≤ p1.1) = !decide (p1.1 < p2.1 + s2.1) := by
    by_cases h : p1.1 < p2.1 + s2.1
    · rw [decide_eq_true h, decide_eq_false (by omega)]; rfl
    · rw [decide_eq_false h, decide_eq_true (by omega)]; rfl
  have e3 : decide (p1.2 + s1.2 ≤ p2.2) = !decide (p2.2 < p1.2 + s1.2) := by
    by_cases h : p2.2 < p1.2 + s1.2
    · rw [decide_eq_true h, decide_eq_false (by omega)]; rfl
    · rw [decide_eq_false h, decide_eq_true (by omega)]; rfl
  have e4 : decide (p2.2 + s2.2 ≤ p1.2) = !decide (p1.2 < p2.2 + s2.2) := by
    by_cases h : p1.2 < p2.2 + s2.2
    · rw [decide_eq_true h, decide_eq_false (by omega)]; rfl
    · rw [decide_eq_false h, decide_eq_true (by omega)]; rfl
  rw [e1, e2, e3, e4]
  cases decide (p2.1 < p1.1 + s1.1) <;> cases decide (p1.1 < p2.1 + s2.1) <;> cases decide (p2.2 < p1.2 + s1.2) <;> cases decide (p1.2 < p2.2 + s2.2) <;> rfl
def at2 (l : List II) (i : Nat) : II := l.getD i (0, 0)
def okPic (ss ps : List II) : Bool := (List.range ss.length).all fun j => (List.range j).all fun i => apart (at2 ss j) (at2 ss i) (at2 ps j) (at2 ps i)
theorem okPic_iff {ss ps : List II} : okPic ss ps = true ↔ ∀ j i, i < j → j < ss.length → apart (at2 ss j) (at2 ss i) (at2 ps j) (at2 ps i) = true := by
  unfold okPic
  simp only [List.all_eq_true, List.mem_range]
  exact ⟨fun h j i hi hj => h j hj i hi, fun h j hj i hi => h j i hi hj⟩
theorem okPic_ov {ss ps : List II} : okPic ss ps = true ↔ ∀ i j, i < j → j < ss.length → ovB (at2 ss i) (at2 ss j) (at2 ps i) (at2 ps j) = false := by
  rw [okPic_iff]
  constructor
  · intro h i j hi hj
    rw [ov_apart, h j i hi hj]; rfl
  · intro h j i hi hj
    have := h i j hi hj
    rw [ov_apart] at this
    cases q : apart (at2 ss j) (at2 ss i) (at2 ps j) (at2 ps i) with
    | true => rfl
    | false => rw [q] at this; cases this
def sizesOf (rows : List Row) : List II := rows.map fun r => (r.2.getD 0 0, r.2.getD 1 0)
def placesOf (rows : List Row) : List II := rows.map fun r => (r.2.getD 2 0, r.2.getD 3 0)
inductive PicOut where
  | line (n : Nat)
  | boxes (p : Int)
  | picture
  | ok (ss ps : List II)
/-- what Boxes(sizes) says: the part that is wrong -/
def badPart (ss : List II) : Option Int := if 1 ≤ ss.length ∧ ss.length ≤ 40 then (ss.findIdx? fun s => !sizeOk s).map Int.ofNat else some (-1)
def picRows (ss ps : List II) : PicOut := match badPart ss with
  | some p => .boxes p
  | none => if okPic ss ps = true then .ok ss ps else .picture
def rowBox : Str → Option Row := rowOf [sBox] (some 4)
def rowStroke : Str → Option Row := rowOf [sLv, sUp] none
def picOut (text : Str) : PicOut := match reads rowBox (linesOf text) with
  | .inl n => .line n
  | .inr rows => picRows (sizesOf rows) (placesOf rows)
inductive ScrOut where
  | line (n : Nat)
  | script
  | ok (rows : List Row)
def scrRows (many : Nat) (rows : List Row) : ScrOut := if rows.length ≤ 200 ∧ rows.all (fun r => decide (r.2.length = many)) = true then .ok rows else .script
def scrOut (many : Nat) (text : Str) : ScrOut := match reads rowStroke (linesOf text) with
  | .inl n => .line n
  | .inr rows => scrRows many rows
theorem bad_some {ss : List II} {i : Nat} {s : II} (h1 : 1 ≤ ss.length) (h2 : ss.length ≤ 40) (h : ss[i]? = some s) (hb : sizeOk s = false) (ha : ∀ j s', j < i → ss[j]? = some s' → sizeOk s' = true) : badPart ss = some (i : Int) := by
  unfold badPart
  rw [if_pos ⟨h1, h2⟩]
  have e : ss.findIdx? (fun s => !sizeOk s) = some i := by
    obtain ⟨hi, e⟩ := List.getElem?_eq_some_iff.mp h
    rw [List.findIdx?_eq_some_iff_getElem]
    refine ⟨hi, by rw [e, hb]; rfl, fun j hj z => ?_⟩
    have := ha j _ hj (List.getElem?_eq_getElem (by omega))
    rw [this] at z
    cases z
  rw [e]
  rfl
theorem bad_none {ss : List II} (h1 : 1 ≤ ss.length) (h2 : ss.length ≤ 40) (ha : ∀ j s', j < ss.length → ss[j]? = some s' → sizeOk s' = true) : badPart ss = none := by
  unfold badPart
  rw [if_pos ⟨h1, h2⟩]
  have e : ss.findIdx? (fun s => !sizeOk s) = none := by
    rw [List.findIdx?_eq_none_iff]
    intro x hx
    obtain ⟨j, hj, e⟩ := List.mem_iff_getElem.mp hx
    rw [ha j x hj (by rw [List.getElem?_eq_getElem hj, e])]
    rfl
  rw [e]
  rfl
theorem bad_len {ss : List II} (h : ¬ (1 ≤ ss.length ∧ ss.length ≤ 40)) : badPart ss = some (-1) := if_neg h
/-! ### how long texts are -/
def tot (ls : List Str) : Nat := (ls.map (·.length)).sum + ls.length
theorem tot_nil : tot [] = 0 := rfl
theorem tot_cons (x : Str) (l : List Str) : tot (x :: l) = x.length + 1 + tot l := by
  unfold tot
  simp only [List.map_cons, List.sum_cons, List.length_cons]
  omega
theorem tot_app (a b : List Str) : tot (a ++ b) = tot a + tot b := by
  induction a with
  | nil => simp [tot_nil]
  | cons x l ih => rw [List.cons_append, tot_cons, tot_cons, ih]; omega
theorem tot_take (n : Nat) (l : List Str) : tot (l.take n) ≤ tot l := by
  have := tot_app (l.take n) (l.drop n)
  rw [List.take_append_drop] at this
  omega
theorem tot_drop (n : Nat) (l : List Str) : tot (l.drop n) ≤ tot l := by
  have := tot_app (l.take n) (l.drop n)
  rw [List.take_append_drop] at this
  omega
theorem tot_mem {x : Str} {l : List Str} (h : x ∈ l) : x.length + 1 ≤ tot l := by
  induction l with
  | nil => cases h
  | cons y l ih =>
    rw [tot_cons]
    rcases List.mem_cons.mp h with e | h
    · subst e; omega
    · have := ih h; omega
theorem tot_len (l : List Str) : l.length ≤ tot l := by unfold tot; omega
theorem tot_sum (l : List Str) : (l.map (·.length)).sum + l.length = tot l := rfl
theorem tot_set {l : List Str} {i : Nat} {y : Str} : tot (l.set i y) ≤ tot l + y.length + 1 := by
  induction l generalizing i with
  | nil => simp [tot_nil]
  | cons x l ih =>
    cases i with
    | zero => rw [List.set_cons_zero, tot_cons, tot_cons]; omega
    | succ i =>
      rw [List.set_cons_succ, tot_cons, tot_cons]
      have := ih (i := i)
      omega
/-- the parts of a text cut at one sign -/
theorem spl_tot (s : Nat) : ∀ (l acc : List Nat), ((TL.spl [s] 0 acc l).map (·.length)).sum + (TL.spl [s] 0 acc l).length = acc.length + l.length + 1
  | [], acc => by rw [TL.spl_nil]; simp
  | c :: r, acc => by
    by_cases h : TL.pre [s] (c :: r) = true
    · rw [TL.spl_hit h]
      have ih := spl_tot s r []
      simp only [List.length_cons, List.length_nil, List.map_cons, List.sum_cons] at ih ⊢
      have e0 : (0 + 1 - 1 : Nat) = 0 := rfl
      rw [e0]
      omega
    · have h' : TL.pre [s] (c :: r) = false := by simpa using h
      rw [TL.spl_miss h']
      have ih := spl_tot s r (acc ++ [c])
      rw [List.length_append] at ih
      simp only [List.length_cons, List.length_nil] at ih ⊢
      omega
theorem split_tot {a y : Str} {s : Nat} (ey : TL.tl y = [s]) (hk : y.cps.all (· < 256) = true) : tot (Txt.split a y) = a.length + 1 := by
  have h := TL.split_spl a y (by rw [ey]; simp) (TL.kind_ok hk)
  have h2 := spl_tot s (TL.tl a) []
  rw [ey] at h
  rw [← h] at h2
  rw [List.map_map, List.length_map] at h2
  unfold tot
  have e : (Txt.split a y).map (fun x => x.length) = (Txt.split a y).map ((fun x => x.length) ∘ TL.tl) := List.map_congr_left fun x _ => (len_tl' x).symm
  rw [e]
  rw [len_tl'] at h2
  simpa using h2
theorem split_ne {a y : Str} {s : Nat} (ey : TL.tl y = [s]) (hk : y.cps.all (· < 256) = true) : Txt.split a y ≠ [] := fun z => by
  have h := TL.split_spl a y (by rw [ey]; simp) (TL.kind_ok hk)
  rw [z, ey] at h
  have h2 := spl_tot s (TL.tl a) []
  rw [← h] at h2
  simp at h2
theorem words_tot (line : Str) : tot (wordsOf line) = line.length + 1 := split_tot (s := 32) (by decide +kernel) (by decide +kernel)
theorem words_ne (line : Str) : wordsOf line ≠ [] := split_ne (s := 32) (by decide +kernel) (by decide +kernel)
theorem lines_tot (text : Str) : tot (linesOf text) = text.length + 1 := split_tot (s := 10) (by decide +kernel) (by decide +kernel)
theorem lines_ne (text : Str) : linesOf text ≠ [] := split_ne (s := 10) (by decide +kernel) (by decide +kernel)
theorem joinL_len (S : List Nat) : ∀ ps : List (List Nat), (TL.joinL S ps).length ≤ (ps.map (·.length)).sum + ps.length * S.length
  | [] => by simp [TL.joinL]
  | [p] => by simp [TL.joinL]
  | p :: q :: r => by
    have ih := joinL_len S (q :: r)
    rw [show TL.joinL S (p :: q :: r) = p ++ (S ++ TL.joinL S (q :: r)) from rfl]
    rw [List.length_append, List.length_append]
    simp only [List.map_cons, List.sum_cons, List.length_cons] at ih ⊢
    have e1 : (r.length + 1 + 1) * S.length = (r.length + 1) * S.length + S.length := Nat.succ_mul _ _
    omega
theorem join_len (y : Str) (ps : List Str) : (Txt.join y ps).length ≤ (ps.map (·.length)).sum + ps.length * y.length := by
  rw [TL.join_eq, ← len_tl', TL.tl_join]
  refine Nat.le_trans (joinL_len _ _) ?_
  rw [List.map_map, List.length_map, len_tl']
  have e : ps.map (fun x => x.length) = ps.map ((fun x => x.length) ∘ TL.tl) := List.map_congr_left fun x _ => (len_tl' x).symm
  rw [e]
  exact Nat.le_refl _
/-- joined by blanks -/
theorem join_sp (ps : List Str) : (Txt.join sSp ps).length ≤ tot ps := by
  have := join_len sSp ps
  rw [show sSp.length = 1 from rfl, Nat.mul_one] at this
  exact this
theorem len_app (a b : Str) : (a ++ b).length = a.length + b.length := by
  rw [← len_tl', TL.tl_append, List.length_append, len_tl', len_tl']
theorem closed_tot (ls : List Str) : ((ls.map fun l => l ++ sNl).map (·.length)).sum = tot ls := by
  induction ls with
  | nil => rfl
  | cons x l ih =>
    rw [tot_cons]
    simp only [List.map_cons, List.sum_cons] at *
    have h2 : (x ++ sNl).length = x.length + 1 := by rw [len_app]; rfl
    omega
theorem join_closed (ls : List Str) : (Txt.join Str.empty (ls.map fun l => l ++ sNl)).length ≤ tot ls := by
  have := join_len Str.empty (ls.map fun l => l ++ sNl)
  rw [show Str.empty.length = 0 from rfl, Nat.mul_zero, Nat.add_zero, closed_tot] at this
  exact this
theorem int_len {i : Int} (h : i.natAbs < 10 ^ 9) : (PySem.Str.ofString (toString i)).length ≤ 10 := by
  have h1 : (toString i).length ≤ 9 + 1 := int_text_length_le10 (by decide) h
  have h2 : (PySem.Str.ofString (toString i)).length = (toString i).length := by
    rw [← len_tl', TL.tl_ofString, List.length_map]
    first
      | rfl
      | exact String.length_toList
  omega
end K45

namespace K45
open PySem PySem.Spec PyProof.Rows L2
/-! ### what the top has left -/
structure Txt (K : PySem.W.Frag) (mg : Str → Option Value) : Prop where
  hp : ∃ h : Heap, K.In h ∧ h.Ns mainGlobals mg
  says : He.SaysD fa fn K
  more : moreB K = true
section
variable {K : PySem.W.Frag} {mg : Str → Option Value}

theorem Txt.g_is_integer (T : Txt K mg) : mg "is_integer" = some (.ref (He.ga K "is_integer")) := by
  obtain ⟨h, X, G⟩ := T.hp
  exact He.glo_ok X G (T.says.fact 0 (f := .glo "is_integer") rfl)
theorem Txt.g_is_within (T : Txt K mg) : mg "is_within" = some (.ref (He.ga K "is_within")) := by
  obtain ⟨h, X, G⟩ := T.hp
  exact He.glo_ok X G (T.says.fact 1 (f := .glo "is_within") rfl)
theorem Txt.g_is_pair (T : Txt K mg) : mg "is_pair" = some (.ref (He.ga K "is_pair")) := by
  obtain ⟨h, X, G⟩ := T.hp
  exact He.glo_ok X G (T.says.fact 2 (f := .glo "is_pair") rfl)
theorem Txt.g_is_sized (T : Txt K mg) : mg "is_sized" = some (.ref (He.ga K "is_sized")) := by
  obtain ⟨h, X, G⟩ := T.hp
  exact He.glo_ok X G (T.says.fact 3 (f := .glo "is_sized") rfl)
theorem Txt.g_are_integers (T : Txt K mg) : mg "are_integers" = some (.ref (He.ga K "are_integers")) := by
  obtain ⟨h, X, G⟩ := T.hp
  exact He.glo_ok X G (T.says.fact 4 (f := .glo "are_integers") rfl)
theorem Txt.g_is_size (T : Txt K mg) : mg "is_size" = some (.ref (He.ga K "is_size")) := by
  obtain ⟨h, X, G⟩ := T.hp
  exact He.glo_ok X G (T.says.fact 5 (f := .glo "is_size") rfl)
theorem Txt.g_are_places (T : Txt K mg) : mg "are_places" = some (.ref (He.ga K "are_places")) := by
  obtain ⟨h, X, G⟩ := T.hp
  exact He.glo_ok X G (T.says.fact 6 (f := .glo "are_places") rfl)
theorem Txt.g_meet (T : Txt K mg) : mg "meet" = some (.ref (He.ga K "meet")) := by
  obtain ⟨h, X, G⟩ := T.hp
  exact He.glo_ok X G (T.says.fact 7 (f := .glo "meet") rfl)
theorem Txt.g_in_row (T : Txt K mg) : mg "in_row" = some (.ref (He.ga K "in_row")) := by
  obtain ⟨h, X, G⟩ := T.hp
  exact He.glo_ok X G (T.says.fact 8 (f := .glo "in_row") rfl)
theorem Txt.g_in_column (T : Txt K mg) : mg "in_column" = some (.ref (He.ga K "in_column")) := by
  obtain ⟨h, X, G⟩ := T.hp
  exact He.glo_ok X G (T.says.fact 9 (f := .glo "in_column") rfl)
theorem Txt.g_overlap (T : Txt K mg) : mg "overlap" = some (.ref (He.ga K "overlap")) := by
  obtain ⟨h, X, G⟩ := T.hp
  exact He.glo_ok X G (T.says.fact 10 (f := .glo "overlap") rfl)
theorem Txt.g_all_overlaps (T : Txt K mg) : mg "all_overlaps" = some (.ref (He.ga K "all_overlaps")) := by
  obtain ⟨h, X, G⟩ := T.hp
  exact He.glo_ok X G (T.says.fact 11 (f := .glo "all_overlaps") rfl)
theorem Txt.g_is_shown (T : Txt K mg) : mg "is_shown" = some (.ref (He.ga K "is_shown")) := by
  obtain ⟨h, X, G⟩ := T.hp
  exact He.glo_ok X G (T.says.fact 12 (f := .glo "is_shown") rfl)
theorem Txt.g_check_picture (T : Txt K mg) : mg "check_picture" = some (.ref (He.ga K "check_picture")) := by
  obtain ⟨h, X, G⟩ := T.hp
  exact He.glo_ok X G (T.says.fact 13 (f := .glo "check_picture") rfl)
theorem Txt.g_is_word (T : Txt K mg) : mg "is_word" = some (.ref (He.ga K "is_word")) := by
  obtain ⟨h, X, G⟩ := T.hp
  exact He.glo_ok X G (T.says.fact 14 (f := .glo "is_word") rfl)
theorem Txt.g_is_stroke (T : Txt K mg) : mg "is_stroke" = some (.ref (He.ga K "is_stroke")) := by
  obtain ⟨h, X, G⟩ := T.hp
  exact He.glo_ok X G (T.says.fact 15 (f := .glo "is_stroke") rfl)
theorem Txt.g_is_form (T : Txt K mg) : mg "is_form" = some (.ref (He.ga K "is_form")) := by
  obtain ⟨h, X, G⟩ := T.hp
  exact He.glo_ok X G (T.says.fact 16 (f := .glo "is_form") rfl)
theorem Txt.g_is_number_word (T : Txt K mg) : mg "is_number_word" = some (.ref (He.ga K "is_number_word")) := by
  obtain ⟨h, X, G⟩ := T.hp
  exact He.glo_ok X G (T.says.fact 17 (f := .glo "is_number_word") rfl)
theorem Txt.g_is_integer_word (T : Txt K mg) : mg "is_integer_word" = some (.ref (He.ga K "is_integer_word")) := by
  obtain ⟨h, X, G⟩ := T.hp
  exact He.glo_ok X G (T.says.fact 18 (f := .glo "is_integer_word") rfl)
theorem Txt.g_integers_told (T : Txt K mg) : mg "integers_told" = some (.ref (He.ga K "integers_told")) := by
  obtain ⟨h, X, G⟩ := T.hp
  exact He.glo_ok X G (T.says.fact 19 (f := .glo "integers_told") rfl)
theorem Txt.g_lines_told (T : Txt K mg) : mg "lines_told" = some (.ref (He.ga K "lines_told")) := by
  obtain ⟨h, X, G⟩ := T.hp
  exact He.glo_ok X G (T.says.fact 20 (f := .glo "lines_told") rfl)
theorem Txt.g_box_told (T : Txt K mg) : mg "box_told" = some (.ref (He.ga K "box_told")) := by
  obtain ⟨h, X, G⟩ := T.hp
  exact He.glo_ok X G (T.says.fact 21 (f := .glo "box_told") rfl)
theorem Txt.g_stroke_told (T : Txt K mg) : mg "stroke_told" = some (.ref (He.ga K "stroke_told")) := by
  obtain ⟨h, X, G⟩ := T.hp
  exact He.glo_ok X G (T.says.fact 22 (f := .glo "stroke_told") rfl)
theorem Txt.g_read_picture (T : Txt K mg) : mg "read_picture" = some (.ref (He.ga K "read_picture")) := by
  obtain ⟨h, X, G⟩ := T.hp
  exact He.glo_ok X G (T.says.fact 23 (f := .glo "read_picture") rfl)
theorem Txt.g_read_script (T : Txt K mg) : mg "read_script" = some (.ref (He.ga K "read_script")) := by
  obtain ⟨h, X, G⟩ := T.hp
  exact He.glo_ok X G (T.says.fact 24 (f := .glo "read_script") rfl)
theorem Txt.g__law_hand (T : Txt K mg) : mg "_law_hand" = some (.ref (He.ga K "_law_hand")) := by
  obtain ⟨h, X, G⟩ := T.hp
  exact He.glo_ok X G (T.says.fact 25 (f := .glo "_law_hand") rfl)
theorem Txt.g__law_draw (T : Txt K mg) : mg "_law_draw" = some (.ref (He.ga K "_law_draw")) := by
  obtain ⟨h, X, G⟩ := T.hp
  exact He.glo_ok X G (T.says.fact 26 (f := .glo "_law_draw") rfl)
theorem Txt.g__law_any (T : Txt K mg) : mg "_law_any" = some (.ref (He.ga K "_law_any")) := by
  obtain ⟨h, X, G⟩ := T.hp
  exact He.glo_ok X G (T.says.fact 27 (f := .glo "_law_any") rfl)
theorem Txt.g__law_deep (T : Txt K mg) : mg "_law_deep" = some (.ref (He.ga K "_law_deep")) := by
  obtain ⟨h, X, G⟩ := T.hp
  exact He.glo_ok X G (T.says.fact 28 (f := .glo "_law_deep") rfl)
theorem Txt.g__law_lie_apart (T : Txt K mg) : mg "_law_lie_apart" = some (.ref (He.ga K "_law_lie_apart")) := by
  obtain ⟨h, X, G⟩ := T.hp
  exact He.glo_ok X G (T.says.fact 29 (f := .glo "_law_lie_apart") rfl)
theorem Txt.g__law_shown_parts (T : Txt K mg) : mg "_law_shown_parts" = some (.ref (He.ga K "_law_shown_parts")) := by
  obtain ⟨h, X, G⟩ := T.hp
  exact He.glo_ok X G (T.says.fact 30 (f := .glo "_law_shown_parts") rfl)
theorem Txt.g__law_parts (T : Txt K mg) : mg "_law_parts" = some (.ref (He.ga K "_law_parts")) := by
  obtain ⟨h, X, G⟩ := T.hp
  exact He.glo_ok X G (T.says.fact 31 (f := .glo "_law_parts") rfl)
theorem Txt.g__law_picture_lines (T : Txt K mg) : mg "_law_picture_lines" = some (.ref (He.ga K "_law_picture_lines")) := by
  obtain ⟨h, X, G⟩ := T.hp
  exact He.glo_ok X G (T.says.fact 32 (f := .glo "_law_picture_lines") rfl)
theorem Txt.g__law_number (T : Txt K mg) : mg "_law_number" = some (.ref (He.ga K "_law_number")) := by
  obtain ⟨h, X, G⟩ := T.hp
  exact He.glo_ok X G (T.says.fact 33 (f := .glo "_law_number") rfl)
theorem Txt.g__law_closed_lines (T : Txt K mg) : mg "_law_closed_lines" = some (.ref (He.ga K "_law_closed_lines")) := by
  obtain ⟨h, X, G⟩ := T.hp
  exact He.glo_ok X G (T.says.fact 34 (f := .glo "_law_closed_lines") rfl)
theorem Txt.g__law_read_lines (T : Txt K mg) : mg "_law_read_lines" = some (.ref (He.ga K "_law_read_lines")) := by
  obtain ⟨h, X, G⟩ := T.hp
  exact He.glo_ok X G (T.says.fact 35 (f := .glo "_law_read_lines") rfl)
theorem Txt.g__law_due_picture (T : Txt K mg) : mg "_law_due_picture" = some (.ref (He.ga K "_law_due_picture")) := by
  obtain ⟨h, X, G⟩ := T.hp
  exact He.glo_ok X G (T.says.fact 36 (f := .glo "_law_due_picture") rfl)
theorem Txt.g__law_due_script (T : Txt K mg) : mg "_law_due_script" = some (.ref (He.ga K "_law_due_script")) := by
  obtain ⟨h, X, G⟩ := T.hp
  exact He.glo_ok X G (T.says.fact 37 (f := .glo "_law_due_script") rfl)
theorem Txt.g__law_told (T : Txt K mg) : mg "_law_told" = some (.ref (He.ga K "_law_told")) := by
  obtain ⟨h, X, G⟩ := T.hp
  exact He.glo_ok X G (T.says.fact 38 (f := .glo "_law_told") rfl)
theorem Txt.g__law_bent_line (T : Txt K mg) : mg "_law_bent_line" = some (.ref (He.ga K "_law_bent_line")) := by
  obtain ⟨h, X, G⟩ := T.hp
  exact He.glo_ok X G (T.says.fact 39 (f := .glo "_law_bent_line") rfl)
theorem Txt.g__law_bent_text (T : Txt K mg) : mg "_law_bent_text" = some (.ref (He.ga K "_law_bent_text")) := by
  obtain ⟨h, X, G⟩ := T.hp
  exact He.glo_ok X G (T.says.fact 40 (f := .glo "_law_bent_text") rfl)
theorem Txt.g__law_picture_right (T : Txt K mg) : mg "_law_picture_right" = some (.ref (He.ga K "_law_picture_right")) := by
  obtain ⟨h, X, G⟩ := T.hp
  exact He.glo_ok X G (T.says.fact 41 (f := .glo "_law_picture_right") rfl)
theorem Txt.g__law_far_right (T : Txt K mg) : mg "_law_far_right" = some (.ref (He.ga K "_law_far_right")) := by
  obtain ⟨h, X, G⟩ := T.hp
  exact He.glo_ok X G (T.says.fact 42 (f := .glo "_law_far_right") rfl)
theorem Txt.g_law (T : Txt K mg) : mg "law" = some (.ref (He.ga K "law")) := by
  obtain ⟨h, X, G⟩ := T.hp
  exact He.glo_ok X G (T.says.fact 43 (f := .glo "law") rfl)
theorem Txt.g_StrokeError (T : Txt K mg) : mg "StrokeError" = some (.ref (He.ga K "StrokeError")) := by
  obtain ⟨h, X, G⟩ := T.hp
  exact He.glo_ok X G (T.says.fact 44 (f := .glo "StrokeError") rfl)
theorem Txt.g_BadBoxes (T : Txt K mg) : mg "BadBoxes" = some (.ref (He.ga K "BadBoxes")) := by
  obtain ⟨h, X, G⟩ := T.hp
  exact He.glo_ok X G (T.says.fact 45 (f := .glo "BadBoxes") rfl)
theorem Txt.g_NoPicture (T : Txt K mg) : mg "NoPicture" = some (.ref (He.ga K "NoPicture")) := by
  obtain ⟨h, X, G⟩ := T.hp
  exact He.glo_ok X G (T.says.fact 46 (f := .glo "NoPicture") rfl)
theorem Txt.g_NoScript (T : Txt K mg) : mg "NoScript" = some (.ref (He.ga K "NoScript")) := by
  obtain ⟨h, X, G⟩ := T.hp
  exact He.glo_ok X G (T.says.fact 47 (f := .glo "NoScript") rfl)
theorem Txt.g_BadText (T : Txt K mg) : mg "BadText" = some (.ref (He.ga K "BadText")) := by
  obtain ⟨h, X, G⟩ := T.hp
  exact He.glo_ok X G (T.says.fact 48 (f := .glo "BadText") rfl)
theorem Txt.g_Boxes (T : Txt K mg) : mg "Boxes" = some (.ref (He.ga K "Boxes")) := by
  obtain ⟨h, X, G⟩ := T.hp
  exact He.glo_ok X G (T.says.fact 49 (f := .glo "Boxes") rfl)
theorem Txt.f_isinstance (T : Txt K mg) : mg "isinstance" = none := by
  obtain ⟨h, X, G⟩ := T.hp
  exact He.free_ok X G (T.says.fact 50 (f := .free "isinstance") rfl)
theorem Txt.f_int (T : Txt K mg) : mg "int" = none := by
  obtain ⟨h, X, G⟩ := T.hp
  exact He.free_ok X G (T.says.fact 51 (f := .free "int") rfl)
theorem Txt.f_bool (T : Txt K mg) : mg "bool" = none := by
  obtain ⟨h, X, G⟩ := T.hp
  exact He.free_ok X G (T.says.fact 52 (f := .free "bool") rfl)
theorem Txt.f_tuple (T : Txt K mg) : mg "tuple" = none := by
  obtain ⟨h, X, G⟩ := T.hp
  exact He.free_ok X G (T.says.fact 53 (f := .free "tuple") rfl)
theorem Txt.f_len (T : Txt K mg) : mg "len" = none := by
  obtain ⟨h, X, G⟩ := T.hp
  exact He.free_ok X G (T.says.fact 54 (f := .free "len") rfl)
theorem Txt.f_all (T : Txt K mg) : mg "all" = none := by
  obtain ⟨h, X, G⟩ := T.hp
  exact He.free_ok X G (T.says.fact 55 (f := .free "all") rfl)
theorem Txt.f_str (T : Txt K mg) : mg "str" = none := by
  obtain ⟨h, X, G⟩ := T.hp
  exact He.free_ok X G (T.says.fact 56 (f := .free "str") rfl)
theorem Txt.f_enumerate (T : Txt K mg) : mg "enumerate" = none := by
  obtain ⟨h, X, G⟩ := T.hp
  exact He.free_ok X G (T.says.fact 57 (f := .free "enumerate") rfl)
theorem Txt.f_range (T : Txt K mg) : mg "range" = none := by
  obtain ⟨h, X, G⟩ := T.hp
  exact He.free_ok X G (T.says.fact 58 (f := .free "range") rfl)
theorem Txt.f_zip (T : Txt K mg) : mg "zip" = none := by
  obtain ⟨h, X, G⟩ := T.hp
  exact He.free_ok X G (T.says.fact 59 (f := .free "zip") rfl)
theorem Txt.f_max (T : Txt K mg) : mg "max" = none := by
  obtain ⟨h, X, G⟩ := T.hp
  exact He.free_ok X G (T.says.fact 60 (f := .free "max") rfl)
theorem Txt.f_abs (T : Txt K mg) : mg "abs" = none := by
  obtain ⟨h, X, G⟩ := T.hp
  exact He.free_ok X G (T.says.fact 61 (f := .free "abs") rfl)
theorem Txt.f_list (T : Txt K mg) : mg "list" = none := by
  obtain ⟨h, X, G⟩ := T.hp
  exact He.free_ok X G (T.says.fact 62 (f := .free "list") rfl)
theorem Txt.f_ValueError (T : Txt K mg) : mg "ValueError" = none := by
  obtain ⟨h, X, G⟩ := T.hp
  exact He.free_ok X G (T.says.fact 63 (f := .free "ValueError") rfl)
theorem Txt.i_MOST_BOXES (T : Txt K mg) : ∃ t, mg "MOST_BOXES" = some (.int 40 t) := by
  obtain ⟨h, X, G⟩ := T.hp
  exact He.int_ok X G (T.says.fact 64 (f := .int "MOST_BOXES" 40) rfl)
theorem Txt.i_MOST_SIZE (T : Txt K mg) : ∃ t, mg "MOST_SIZE" = some (.int 1000 t) := by
  obtain ⟨h, X, G⟩ := T.hp
  exact He.int_ok X G (T.says.fact 65 (f := .int "MOST_SIZE" 1000) rfl)
theorem Txt.i_MOST_STROKES (T : Txt K mg) : ∃ t, mg "MOST_STROKES" = some (.int 200 t) := by
  obtain ⟨h, X, G⟩ := T.hp
  exact He.int_ok X G (T.says.fact 66 (f := .int "MOST_STROKES" 200) rfl)
theorem Txt.i_MOST_FIGURES (T : Txt K mg) : ∃ t, mg "MOST_FIGURES" = some (.int 9 t) := by
  obtain ⟨h, X, G⟩ := T.hp
  exact He.int_ok X G (T.says.fact 67 (f := .int "MOST_FIGURES" 9) rfl)
theorem Txt.s_LEVEL (T : Txt K mg) : ∃ t, mg "LEVEL" = some (.str "level" t) := by
  obtain ⟨h, X, G⟩ := T.hp
  exact He.str_ok X G (T.says.fact 68 (f := .str "LEVEL" "level") rfl)
theorem Txt.s_UPRIGHT (T : Txt K mg) : ∃ t, mg "UPRIGHT" = some (.str "upright" t) := by
  obtain ⟨h, X, G⟩ := T.hp
  exact He.str_ok X G (T.says.fact 69 (f := .str "UPRIGHT" "upright") rfl)
theorem Txt.s_FIGURES (T : Txt K mg) : ∃ t, mg "FIGURES" = some (.str "0123456789" t) := by
  obtain ⟨h, X, G⟩ := T.hp
  exact He.str_ok X G (T.says.fact 70 (f := .str "FIGURES" "0123456789") rfl)
theorem Txt.s_BOX (T : Txt K mg) : ∃ t, mg "BOX" = some (.str "box" t) := by
  obtain ⟨h, X, G⟩ := T.hp
  exact He.str_ok X G (T.says.fact 71 (f := .str "BOX" "box") rfl)
theorem Txt.cls (T : Txt K mg) : Cls K (He.ga K "Boxes") := He.cls_ok (T.says.fact 72 (f := .cls "Boxes") rfl)
theorem Txt.no_sizes (T : Txt K mg) : NoAttr K (He.ga K "Boxes") "sizes" := He.noat_ok (T.says.fact 73 (f := .noat "Boxes" "sizes") rfl)
theorem Txt.no_many (T : Txt K mg) : NoAttr K (He.ga K "Boxes") "many" := He.noat_ok (T.says.fact 74 (f := .noat "Boxes" "many") rfl)
theorem Txt.mkB (T : Txt K mg) : Mk K (He.ga K "Boxes") (He.ma K (He.ga K "Boxes") "__init__") := He.mkr_ok (T.says.fact 75 (f := .mkr "Boxes") rfl)
theorem Txt.meth_eq (T : Txt K mg) : Meth K (He.ga K "Boxes") "__eq__" (He.ma K (He.ga K "Boxes") "__eq__") := He.meth_ok (T.says.fact 76 (f := .meth "Boxes" "__eq__") rfl)
theorem Txt.exc_NoPicture (T : Txt K mg) : PySem.W.excIn K (He.ga K "NoPicture") He.veBase "ValueError.__new__" = true ∧ PySem.W.keepIn K (.ref (He.ga K "NoPicture")) = true ∧ PySem.W.subIn K (.ref (He.ga K "NoPicture")) (.type "BaseException") = some true ∧ PySem.W.typeIn K (.ref (He.ga K "NoPicture")) = some (.type "type") := He.exc_ok (T.says.fact 77 (f := .exc "NoPicture") rfl)
theorem Txt.exc_NoScript (T : Txt K mg) : PySem.W.excIn K (He.ga K "NoScript") He.veBase "ValueError.__new__" = true ∧ PySem.W.keepIn K (.ref (He.ga K "NoScript")) = true ∧ PySem.W.subIn K (.ref (He.ga K "NoScript")) (.type "BaseException") = some true ∧ PySem.W.typeIn K (.ref (He.ga K "NoScript")) = some (.type "type") := He.exc_ok (T.says.fact 78 (f := .exc "NoScript") rfl)
theorem Txt.m_BadText_BadText (T : Txt K mg) : PySem.W.exmOne K (.ref (He.ga K "BadText")) (.ref (He.ga K "BadText")) = some true := He.exm_ok (T.says.fact 79 (f := .exm "BadText" "BadText" true) rfl)
theorem Txt.m_BadBoxes_BadText (T : Txt K mg) : PySem.W.exmOne K (.ref (He.ga K "BadBoxes")) (.ref (He.ga K "BadText")) = some false := He.exm_ok (T.says.fact 80 (f := .exm "BadBoxes" "BadText" false) rfl)
theorem Txt.m_BadBoxes_BadBoxes (T : Txt K mg) : PySem.W.exmOne K (.ref (He.ga K "BadBoxes")) (.ref (He.ga K "BadBoxes")) = some true := He.exm_ok (T.says.fact 81 (f := .exm "BadBoxes" "BadBoxes" true) rfl)
theorem Txt.m_NoPicture_BadText (T : Txt K mg) : PySem.W.exmOne K (.ref (He.ga K "NoPicture")) (.ref (He.ga K "BadText")) = some false := He.exm_ok (T.says.fact 82 (f := .exm "NoPicture" "BadText" false) rfl)
theorem Txt.m_NoPicture_BadBoxes (T : Txt K mg) : PySem.W.exmOne K (.ref (He.ga K "NoPicture")) (.ref (He.ga K "BadBoxes")) = some false := He.exm_ok (T.says.fact 83 (f := .exm "NoPicture" "BadBoxes" false) rfl)
theorem Txt.m_NoPicture_NoPicture (T : Txt K mg) : PySem.W.exmOne K (.ref (He.ga K "NoPicture")) (.ref (He.ga K "NoPicture")) = some true := He.exm_ok (T.says.fact 84 (f := .exm "NoPicture" "NoPicture" true) rfl)
theorem Txt.m_NoScript_BadText (T : Txt K mg) : PySem.W.exmOne K (.ref (He.ga K "NoScript")) (.ref (He.ga K "BadText")) = some false := He.exm_ok (T.says.fact 85 (f := .exm "NoScript" "BadText" false) rfl)
theorem Txt.m_NoScript_BadBoxes (T : Txt K mg) : PySem.W.exmOne K (.ref (He.ga K "NoScript")) (.ref (He.ga K "BadBoxes")) = some false := He.exm_ok (T.says.fact 86 (f := .exm "NoScript" "BadBoxes" false) rfl)
theorem Txt.m_NoScript_NoPicture (T : Txt K mg) : PySem.W.exmOne K (.ref (He.ga K "NoScript")) (.ref (He.ga K "NoPicture")) = some false := He.exm_ok (T.says.fact 87 (f := .exm "NoScript" "NoPicture" false) rfl)
theorem Txt.m_NoScript_NoScript (T : Txt K mg) : PySem.W.exmOne K (.ref (He.ga K "NoScript")) (.ref (He.ga K "NoScript")) = some true := He.exm_ok (T.says.fact 88 (f := .exm "NoScript" "NoScript" true) rfl)
theorem Txt.d_BadBoxes_init (T : Txt K mg) : ∃ fd, FunD K "__init__" "BadBoxes.__init__" (defArgs (inClass (top 2) 0)) (defBody (inClass (top 2) 0)) (defScope (inClass (top 2) 0)) [] [] (He.ma K (He.ga K "BadBoxes") "__init__") fd := T.says.def_ 0 (d := dm "BadBoxes" "__init__" "BadBoxes.__init__" 2 0) rfl
theorem Txt.d_BadText_init (T : Txt K mg) : ∃ fd, FunD K "__init__" "BadText.__init__" (defArgs (inClass (top 5) 0)) (defBody (inClass (top 5) 0)) (defScope (inClass (top 5) 0)) [] [] (He.ma K (He.ga K "BadText") "__init__") fd := T.says.def_ 1 (d := dm "BadText" "__init__" "BadText.__init__" 5 0) rfl
theorem Txt.d_is_integer (T : Txt K mg) : ∃ fd, FunD K "is_integer" "is_integer" (defArgs (top 7)) (defBody (top 7)) (defScope (top 7)) [] [] (He.ga K "is_integer") fd := T.says.def_ 2 (d := dd "is_integer" 7) rfl
theorem Txt.d_is_within (T : Txt K mg) : ∃ fd, FunD K "is_within" "is_within" (defArgs (top 8)) (defBody (top 8)) (defScope (top 8)) [] [] (He.ga K "is_within") fd := T.says.def_ 3 (d := dd "is_within" 8) rfl
theorem Txt.d_is_pair (T : Txt K mg) : ∃ fd, FunD K "is_pair" "is_pair" (defArgs (top 9)) (defBody (top 9)) (defScope (top 9)) [] [] (He.ga K "is_pair") fd := T.says.def_ 4 (d := dd "is_pair" 9) rfl
theorem Txt.d_is_sized (T : Txt K mg) : ∃ fd, FunD K "is_sized" "is_sized" (defArgs (top 10)) (defBody (top 10)) (defScope (top 10)) [] [] (He.ga K "is_sized") fd := T.says.def_ 5 (d := dd "is_sized" 10) rfl
theorem Txt.d_are_integers (T : Txt K mg) : ∃ fd, FunD K "are_integers" "are_integers" (defArgs (top 11)) (defBody (top 11)) (defScope (top 11)) [] [] (He.ga K "are_integers") fd := T.says.def_ 6 (d := dd "are_integers" 11) rfl
theorem Txt.d_is_size (T : Txt K mg) : ∃ fd, FunD K "is_size" "is_size" (defArgs (top 15)) (defBody (top 15)) (defScope (top 15)) [] [] (He.ga K "is_size") fd := T.says.def_ 7 (d := dd "is_size" 15) rfl
theorem Txt.d_Boxes_init (T : Txt K mg) : ∃ fd, FunD K "__init__" "Boxes.__init__" (defArgs (inClass (top 16) 0)) (defBody (inClass (top 16) 0)) (defScope (inClass (top 16) 0)) [] [] (He.ma K (He.ga K "Boxes") "__init__") fd := T.says.def_ 8 (d := dm "Boxes" "__init__" "Boxes.__init__" 16 0) rfl
theorem Txt.d_Boxes_eq (T : Txt K mg) : ∃ fd, FunD K "__eq__" "Boxes.__eq__" (defArgs (inClass (top 16) 1)) (defBody (inClass (top 16) 1)) (defScope (inClass (top 16) 1)) [] [] (He.ma K (He.ga K "Boxes") "__eq__") fd := T.says.def_ 9 (d := dm "Boxes" "__eq__" "Boxes.__eq__" 16 1) rfl
theorem Txt.d_are_places (T : Txt K mg) : ∃ fd, FunD K "are_places" "are_places" (defArgs (top 17)) (defBody (top 17)) (defScope (top 17)) [] [] (He.ga K "are_places") fd := T.says.def_ 10 (d := dd "are_places" 17) rfl
theorem Txt.d_meet (T : Txt K mg) : ∃ fd, FunD K "meet" "meet" (defArgs (top 18)) (defBody (top 18)) (defScope (top 18)) [] [] (He.ga K "meet") fd := T.says.def_ 11 (d := dd "meet" 18) rfl
theorem Txt.d_in_row (T : Txt K mg) : ∃ fd, FunD K "in_row" "in_row" (defArgs (top 19)) (defBody (top 19)) (defScope (top 19)) [] [] (He.ga K "in_row") fd := T.says.def_ 12 (d := dd "in_row" 19) rfl
theorem Txt.d_in_column (T : Txt K mg) : ∃ fd, FunD K "in_column" "in_column" (defArgs (top 20)) (defBody (top 20)) (defScope (top 20)) [] [] (He.ga K "in_column") fd := T.says.def_ 13 (d := dd "in_column" 20) rfl
theorem Txt.d_overlap (T : Txt K mg) : ∃ fd, FunD K "overlap" "overlap" (defArgs (top 21)) (defBody (top 21)) (defScope (top 21)) [] [] (He.ga K "overlap") fd := T.says.def_ 14 (d := dd "overlap" 21) rfl
theorem Txt.d_all_overlaps (T : Txt K mg) : ∃ fd, FunD K "all_overlaps" "all_overlaps" (defArgs (top 22)) (defBody (top 22)) (defScope (top 22)) [] [] (He.ga K "all_overlaps") fd := T.says.def_ 15 (d := dd "all_overlaps" 22) rfl
theorem Txt.d_is_shown (T : Txt K mg) : ∃ fd, FunD K "is_shown" "is_shown" (defArgs (top 23)) (defBody (top 23)) (defScope (top 23)) [] [] (He.ga K "is_shown") fd := T.says.def_ 16 (d := dd "is_shown" 23) rfl
theorem Txt.d_check_picture (T : Txt K mg) : ∃ fd, FunD K "check_picture" "check_picture" (defArgs (top 24)) (defBody (top 24)) (defScope (top 24)) [] [] (He.ga K "check_picture") fd := T.says.def_ 17 (d := dd "check_picture" 24) rfl
theorem Txt.d_is_word (T : Txt K mg) : ∃ fd, FunD K "is_word" "is_word" (defArgs (top 28)) (defBody (top 28)) (defScope (top 28)) [] [] (He.ga K "is_word") fd := T.says.def_ 18 (d := dd "is_word" 28) rfl
theorem Txt.d_is_stroke (T : Txt K mg) : ∃ fd, FunD K "is_stroke" "is_stroke" (defArgs (top 29)) (defBody (top 29)) (defScope (top 29)) [] [] (He.ga K "is_stroke") fd := T.says.def_ 19 (d := dd "is_stroke" 29) rfl
theorem Txt.d_is_form (T : Txt K mg) : ∃ fd, FunD K "is_form" "is_form" (defArgs (top 32)) (defBody (top 32)) (defScope (top 32)) [] [] (He.ga K "is_form") fd := T.says.def_ 20 (d := dd "is_form" 32) rfl
theorem Txt.d_is_number_word (T : Txt K mg) : ∃ fd, FunD K "is_number_word" "is_number_word" (defArgs (top 37)) (defBody (top 37)) (defScope (top 37)) [] [] (He.ga K "is_number_word") fd := T.says.def_ 21 (d := dd "is_number_word" 37) rfl
theorem Txt.d_is_integer_word (T : Txt K mg) : ∃ fd, FunD K "is_integer_word" "is_integer_word" (defArgs (top 38)) (defBody (top 38)) (defScope (top 38)) [] [] (He.ga K "is_integer_word") fd := T.says.def_ 22 (d := dd "is_integer_word" 38) rfl
theorem Txt.d_integers_told (T : Txt K mg) : ∃ fd, FunD K "integers_told" "integers_told" (defArgs (top 39)) (defBody (top 39)) (defScope (top 39)) [] [] (He.ga K "integers_told") fd := T.says.def_ 23 (d := dd "integers_told" 39) rfl
theorem Txt.d_lines_told (T : Txt K mg) : ∃ fd, FunD K "lines_told" "lines_told" (defArgs (top 40)) (defBody (top 40)) (defScope (top 40)) [] [] (He.ga K "lines_told") fd := T.says.def_ 24 (d := dd "lines_told" 40) rfl
theorem Txt.d_box_told (T : Txt K mg) : ∃ fd, FunD K "box_told" "box_told" (defArgs (top 41)) (defBody (top 41)) (defScope (top 41)) [] [] (He.ga K "box_told") fd := T.says.def_ 25 (d := dd "box_told" 41) rfl
theorem Txt.d_stroke_told (T : Txt K mg) : ∃ fd, FunD K "stroke_told" "stroke_told" (defArgs (top 42)) (defBody (top 42)) (defScope (top 42)) [] [] (He.ga K "stroke_told") fd := T.says.def_ 26 (d := dd "stroke_told" 42) rfl
theorem Txt.d_read_picture (T : Txt K mg) : ∃ fd, FunD K "read_picture" "read_picture" (defArgs (top 43)) (defBody (top 43)) (defScope (top 43)) [] [] (He.ga K "read_picture") fd := T.says.def_ 27 (d := dd "read_picture" 43) rfl
theorem Txt.d_read_script (T : Txt K mg) : ∃ fd, FunD K "read_script" "read_script" (defArgs (top 44)) (defBody (top 44)) (defScope (top 44)) [] [] (He.ga K "read_script") fd := T.says.def_ 28 (d := dd "read_script" 44) rfl
theorem Txt.d__law_hand (T : Txt K mg) : ∃ fd, FunD K "_law_hand" "_law_hand" (defArgs (top 46)) (defBody (top 46)) (defScope (top 46)) [] [] (He.ga K "_law_hand") fd := T.says.def_ 29 (d := dd "_law_hand" 46) rfl
theorem Txt.d__law_draw (T : Txt K mg) : ∃ fd, FunD K "_law_draw" "_law_draw" (defArgs (top 47)) (defBody (top 47)) (defScope (top 47)) [] [] (He.ga K "_law_draw") fd := T.says.def_ 30 (d := dd "_law_draw" 47) rfl
theorem Txt.d__law_any (T : Txt K mg) : ∃ fd, FunD K "_law_any" "_law_any" (defArgs (top 48)) (defBody (top 48)) (defScope (top 48)) [] [] (He.ga K "_law_any") fd := T.says.def_ 31 (d := dd "_law_any" 48) rfl
theorem Txt.d__law_deep (T : Txt K mg) : ∃ fd, FunD K "_law_deep" "_law_deep" (defArgs (top 49)) (defBody (top 49)) (defScope (top 49)) [] [] (He.ga K "_law_deep") fd := T.says.def_ 32 (d := dd "_law_deep" 49) rfl
theorem Txt.d__law_lie_apart (T : Txt K mg) : ∃ fd, FunD K "_law_lie_apart" "_law_lie_apart" (defArgs (top 50)) (defBody (top 50)) (defScope (top 50)) [] [] (He.ga K "_law_lie_apart") fd := T.says.def_ 33 (d := dd "_law_lie_apart" 50) rfl
theorem Txt.d__law_shown_parts (T : Txt K mg) : ∃ fd, FunD K "_law_shown_parts" "_law_shown_parts" (defArgs (top 51)) (defBody (top 51)) (defScope (top 51)) [] [] (He.ga K "_law_shown_parts") fd := T.says.def_ 34 (d := dd "_law_shown_parts" 51) rfl
theorem Txt.d__law_parts (T : Txt K mg) : ∃ fd, FunD K "_law_parts" "_law_parts" (defArgs (top 52)) (defBody (top 52)) (defScope (top 52)) [] [] (He.ga K "_law_parts") fd := T.says.def_ 35 (d := dd "_law_parts" 52) rfl
theorem Txt.d__law_picture_lines (T : Txt K mg) : ∃ fd, FunD K "_law_picture_lines" "_law_picture_lines" (defArgs (top 53)) (defBody (top 53)) (defScope (top 53)) [] [] (He.ga K "_law_picture_lines") fd := T.says.def_ 36 (d := dd "_law_picture_lines" 53) rfl
theorem Txt.d__law_number (T : Txt K mg) : ∃ fd, FunD K "_law_number" "_law_number" (defArgs (top 54)) (defBody (top 54)) (defScope (top 54)) [] [] (He.ga K "_law_number") fd := T.says.def_ 37 (d := dd "_law_number" 54) rfl
theorem Txt.d__law_closed_lines (T : Txt K mg) : ∃ fd, FunD K "_law_closed_lines" "_law_closed_lines" (defArgs (top 55)) (defBody (top 55)) (defScope (top 55)) [] [] (He.ga K "_law_closed_lines") fd := T.says.def_ 38 (d := dd "_law_closed_lines" 55) rfl
theorem Txt.d__law_read_lines (T : Txt K mg) : ∃ fd, FunD K "_law_read_lines" "_law_read_lines" (defArgs (top 56)) (defBody (top 56)) (defScope (top 56)) [] [] (He.ga K "_law_read_lines") fd := T.says.def_ 39 (d := dd "_law_read_lines" 56) rfl
theorem Txt.d__law_due_picture (T : Txt K mg) : ∃ fd, FunD K "_law_due_picture" "_law_due_picture" (defArgs (top 57)) (defBody (top 57)) (defScope (top 57)) [] [] (He.ga K "_law_due_picture") fd := T.says.def_ 40 (d := dd "_law_due_picture" 57) rfl
theorem Txt.d__law_due_script (T : Txt K mg) : ∃ fd, FunD K "_law_due_script" "_law_due_script" (defArgs (top 58)) (defBody (top 58)) (defScope (top 58)) [] [] (He.ga K "_law_due_script") fd := T.says.def_ 41 (d := dd "_law_due_script" 58) rfl
theorem Txt.d__law_told (T : Txt K mg) : ∃ fd, FunD K "_law_told" "_law_told" (defArgs (top 59)) (defBody (top 59)) (defScope (top 59)) [] [] (He.ga K "_law_told") fd := T.says.def_ 42 (d := dd "_law_told" 59) rfl
theorem Txt.d__law_bent_line (T : Txt K mg) : ∃ fd, FunD K "_law_bent_line" "_law_bent_line" (defArgs (top 60)) (defBody (top 60)) (defScope (top 60)) [] [] (He.ga K "_law_bent_line") fd := T.says.def_ 43 (d := dd "_law_bent_line" 60) rfl
theorem Txt.d__law_bent_text (T : Txt K mg) : ∃ fd, FunD K "_law_bent_text" "_law_bent_text" (defArgs (top 61)) (defBody (top 61)) (defScope (top 61)) [] [] (He.ga K "_law_bent_text") fd := T.says.def_ 44 (d := dd "_law_bent_text" 61) rfl
theorem Txt.d__law_picture_right (T : Txt K mg) : ∃ fd, FunD K "_law_picture_right" "_law_picture_right" (defArgs (top 62)) (defBody (top 62)) (defScope (top 62)) [] [] (He.ga K "_law_picture_right") fd := T.says.def_ 45 (d := dd "_law_picture_right" 62) rfl
theorem Txt.d__law_far_right (T : Txt K mg) : ∃ fd, FunD K "_law_far_right" "_law_far_right" (defArgs (top 63)) (defBody (top 63)) (defScope (top 63)) [] [] (He.ga K "_law_far_right") fd := T.says.def_ 46 (d := dd "_law_far_right" 63) rfl
theorem Txt.d_law (T : Txt K mg) : ∃ fd, FunD K "law" "law" (defArgs (top 64)) (defBody (top 64)) (defScope (top 64)) [] [] (He.ga K "law") fd := T.says.def_ 47 (d := dd "law" 64) rfl
end
/-! ### exception classes, isinstance -/
structure ExcF (K : PySem.W.Frag) (C : Addr) (f : Str) : Prop where
  o : OexC K C
  x : XfC K C
  no : PySem.W.findIn K (.ref C) f = some none
  iC : PySem.W.findIn K (.ref C) "__init__" = some (some (.ref (He.ma K C "__init__")))
  tI : PySem.W.typeIn K (.ref (He.ma K C "__init__")) = some (.type "function")
theorem oexB_ok {K : PySem.W.Frag} {C : Addr} (q : oexB K C = true) : ∃ nm qn N bs bm sn sub ab col dd k0 k1 k2 k3 k5, K.lookup C = some (excClassObj nm qn C N bs bm true sn sub ab col dd k0 k1 k2 k3 k5 "ValueError.__new__") ∧ PySem.HandSPX.refsVE bm = true := by
  unfold oexB at q
  split at q
  · rename_i dd cd sl ho
    split at q
    · rename_i C' bm k0 k1 k2 k3 n k5 hm hs
      simp only [Bool.and_eq_true, decide_eq_true_eq, Bool.not_eq_true'] at q
      obtain ⟨rfl, rfl, hdel, hdct, ht⟩ := q
      obtain ⟨nm, bs, mro, ns, qn, hd, sn, sub, ab, col, del⟩ := cd
      dsimp only at hm hdel hdct
      subst hm hdel hdct
      have hsl : sl = #[k0, k1, k2, k3, some (.builtin "ValueError.__new__"), k5] := by
        obtain ⟨l⟩ := sl
        simp only at hs
        rw [hs]
      subst hsl
      exact ⟨nm, qn, ns, bs, bm, sn, sub, ab, col, dd, k0, k1, k2, k3, k5, ho, ht⟩
    · cases q
  · cases q
theorem excB_ok {K : PySem.W.Frag} {x f : Str} (h : excB K x f = true) : ExcF K (He.ga K x) f := by
  obtain ⟨h1, h⟩ := He.ba h
  obtain ⟨h2, h⟩ := He.ba h
  obtain ⟨h3, h⟩ := He.ba h
  obtain ⟨h4, h⟩ := He.ba h
  obtain ⟨h5, h⟩ := He.ba h
  obtain ⟨h6, h⟩ := He.ba h
  obtain ⟨h7, h8⟩ := He.ba h
  have x1 := xfB_ok h5
  exact ⟨⟨oexB_ok h1, He.eqO_ok h2, x1.exC, of_decide_eq_true h3, h4⟩, x1, He.eqO_ok h6, He.eqO_ok h7, of_decide_eq_true h8⟩
structure IsiF (K : PySem.W.Frag) (D : Addr) : Prop where
  ha : PySem.W.findIn K (.ref D) "__class__" = some (some (.builtin "object.__class__"))
  hn : PySem.W.specialIn K (.builtin "object.__class__") "__get__" = some (some (.builtin "getset_descriptor.__get__"))
  ht : PySem.W.takesIn K (.builtin "object.__class__") = some true
  hm : PySem.W.mroIn K D (.type "object") = some true
theorem isiB_ok {K : PySem.W.Frag} {D : Addr} (h : isiB K D = true) : IsiF K D := by
  obtain ⟨h1, h⟩ := He.ba h
  obtain ⟨h2, h⟩ := He.ba h
  obtain ⟨h3, h4⟩ := He.ba h
  exact ⟨He.eqO_ok h1, He.eqO_ok h2, of_decide_eq_true h3, of_decide_eq_true h4⟩
abbrev cBT (K : PySem.W.Frag) : Addr := He.ga K "BadText"
abbrev cBB (K : PySem.W.Frag) : Addr := He.ga K "BadBoxes"
abbrev cNP (K : PySem.W.Frag) : Addr := He.ga K "NoPicture"
abbrev cNS (K : PySem.W.Frag) : Addr := He.ga K "NoScript"
abbrev cSE (K : PySem.W.Frag) : Addr := He.ga K "StrokeError"
abbrev cBx (K : PySem.W.Frag) : Addr := He.ga K "Boxes"
structure More (K : PySem.W.Frag) : Prop where
  bt : ExcF K (cBT K) "line"
  bb : ExcF K (cBB K) "part"
  isB : IsiF K (cBx K)
  isT : IsiF K (cBT K)
  k1 : PySem.W.kitOne K (.ref (cBT K)) (.ref (cSE K)) = some true
  k2 : PySem.W.kitOne K (.ref (cBT K)) (.type "ValueError") = some true
  k3 : PySem.W.kitOne K (.ref (cBx K)) (.ref (cBx K)) = some true
  k4 : PySem.W.kitOne K (.ref (cBx K)) (.type "str") = some false
  d1 : (He.cT K ("_law_picture_right", none)).2 ≠ (He.cT K ("_law_far_right", none)).2
  d2 : (He.cT K ("_law_picture_right", none)).2 ≠ (He.cT K ("law", none)).2
  d3 : (He.cT K ("_law_far_right", none)).2 ≠ (He.cT K ("law", none)).2
theorem Txt.mo {K : PySem.W.Frag} {mg : Str → Option Value} (T : Txt K mg) : More K := by
  obtain ⟨h1, h⟩ := He.ba T.more
  obtain ⟨h2, h⟩ := He.ba h
  obtain ⟨h3, h⟩ := He.ba h
  obtain ⟨h4, h⟩ := He.ba h
  obtain ⟨h5, h⟩ := He.ba h
  obtain ⟨h6, h⟩ := He.ba h
  obtain ⟨h7, h⟩ := He.ba h
  obtain ⟨h8, h⟩ := He.ba h
  obtain ⟨h9, h⟩ := He.ba h
  obtain ⟨h10, h11⟩ := He.ba h
  exact ⟨excB_ok h1, excB_ok h2, isiB_ok h3, isiB_ok h4, of_decide_eq_true h5, of_decide_eq_true h6, of_decide_eq_true h7, of_decide_eq_true h8, of_decide_eq_true h9, of_decide_eq_true h10, of_decide_eq_true h11⟩
/-! ### the promise of a def, by its body -/
theorem mk_cal {P : Program} {w : World} {K : PySem.W.Frag} {mg : Str → Option Value} {base : Heap} {CX : CXT} {x : Str} {st : Stmt} {f : Addr} {fd : FuncData} (N ps : List Str) {k : Nat} {sp : Sp}
    (F : FunD K x x (defArgs st) (defBody st) (defScope st) [] [] f fd) (hm : mg x = some (.ref f)) (S : FnScope N ps (defScope st))
    (hb : ∀ (kV doc pm : Value) (an : Option Addr) (cdv ct : Value) (us : List Value), us.length = ps.length → bindArgs (PySem.W.fnOf x x (defArgs st) (defBody st) (defScope st) .none kV doc pm an cdv ct) ⟨us, []⟩ = pure (ps.zip us))
    (len : ∀ vs H Q E, sp vs H Q E → vs.length = ps.length)
    (hbody : ∀ (cdv : Value) (A : Around) (outer : List Env) (s : Shared) (H : Hp) (vs : List V) (Q : VK) (E : XK), Room k (A.deeper (envOfC x (defScope st) s.heap.objs.size f cdv)) → sp vs H Q E →
      ∃ t, PSs (cxOf CX P w K mg base N x (defScope st) f cdv A outer s H E) (defBody st) t ∧ t { nx := fun _ H' => Q .non H', rt := Q } (L2.start N vs) H) : CalX P w K mg base CX (k + 1) x sp :=
  ⟨⟨f, fd, ps, FunD.ok F S len hbody, hm, F.kp, F.bindsN hb⟩⟩
/-- the same for a def that raises nothing -/
theorem mk_cal0 {P : Program} {w : World} {K : PySem.W.Frag} {mg : Str → Option Value} {base : Heap} {x : Str} {st : Stmt} {f : Addr} {fd : FuncData} (N ps : List Str) {k : Nat} {sp : Sp}
    (F : FunD K x x (defArgs st) (defBody st) (defScope st) [] [] f fd) (hm : mg x = some (.ref f)) (S : FnScope N ps (defScope st))
    (hb : ∀ (kV doc pm : Value) (an : Option Addr) (cdv ct : Value) (us : List Value), us.length = ps.length → bindArgs (PySem.W.fnOf x x (defArgs st) (defBody st) (defScope st) .none kV doc pm an cdv ct) ⟨us, []⟩ = pure (ps.zip us))
    (len : ∀ vs H Q E, sp vs H Q E → vs.length = ps.length)
    (hbody : ∀ (cdv : Value) (A : Around) (outer : List Env) (s : Shared) (H : Hp) (vs : List V) (Q : VK) (E : XK), Room k (A.deeper (envOfC x (defScope st) s.heap.objs.size f cdv)) → sp vs H Q E →
      ∃ t, PSs (cxOf CX0 P w K mg base N x (defScope st) f cdv A outer s H E).nox (defBody st) t ∧ t { nx := fun _ H' => Q .non H', rt := Q } (L2.start N vs) H) : CalX P w K mg base CX0 (k + 1) x sp :=
  mk_cal N ps F hm S hb len fun cdv A outer s H vs Q E hr h => by
    obtain ⟨t, h1, h2⟩ := hbody cdv A outer s H vs Q E hr h
    exact ⟨t, h1.nox, h2⟩
/-! ### data of pictures -/
def encP (p : II) : PyData := .tuple [.int p.1, .int p.2]
def encPs (l : List II) : PyData := .tuple (l.map encP)
def encR (r : Row) : PyData := .tuple [.str r.1, .tuple (r.2.map .int)]
theorem lk_s {a b : V} : List.lookup ("sizes" : Str) [(("sizes" : Str), a), (("many" : Str), b)] = some a := by simp [List.lookup]
theorem lk_m {a b : V} : List.lookup ("many" : Str) [(("sizes" : Str), a), (("many" : Str), b)] = some b := by
  have e : (("many" : Str) == ("sizes" : Str)) = false := by decide +kernel
  simp [List.lookup, e]
/-- right Boxes at x -/
def BoxAt (K : PySem.W.Frag) (H : Hp) (x : Addr) (ss : List II) : Prop := ∃ (dx : Addr) (sv : V), H x = some (.ins (cBx K) dx [(("sizes" : Str), sv), (("many" : Str), .int ss.length)]) ∧ Dp K H sv (encPs ss)
theorem boxAt_ext {K : PySem.W.Frag} {H H' : Hp} {x : Addr} {ss : List II} (e : LamX.ExtN H H') (h : BoxAt K H x ss) : BoxAt K H' x ss := by
  obtain ⟨dx, sv, h1, h2⟩ := h
  exact ⟨dx, sv, e _ _ h1 (fun ps z => by cases z), dp_extN e _ _ h2⟩
section
variable {K : PySem.W.Frag} {H : Hp}
/-- a pair in a tuple of pairs -/
theorem encPs_at {xs : List V} {l : List II} {i : Nat} {p : II} (h : DpAll K H xs (l.map encP)) (e : l[i]? = some p) : ∃ b, xs[i]? = some (.ref b) ∧ SqT K H b [.int p.1, .int p.2] := by
  obtain ⟨v, h1, h2⟩ := dpAll_at h (by rw [List.getElem?_map, e]; rfl)
  obtain ⟨b, ys, rfl, h3, h4⟩ := dp_tup h2
  have e2 := dpAll_ints (ns := [p.1, p.2]) h4
  subst e2
  exact ⟨b, h1, h3⟩
theorem at2_get {l : List II} {i : Nat} (h : i < l.length) : l[i]? = some (at2 l i) := by
  unfold at2
  rw [List.getD_eq_getElem?_getD, List.getElem?_eq_getElem h]
  rfl
end
end K45

namespace K45
open PySem PySem.Spec PyProof.Rows L2
section
variable {P : Program} {w : World} {K : PySem.W.Frag} {mg : Str → Option Value} {base : Heap}
/-! ### is_integer -/
def spInteger : Sp := fun vs H Q _ => ∃ n : Int, vs = [.int n] ∧ Q (.bl true) H
theorem ok_is_integer (T : Txt K mg) : CalX P w K mg base CX0 1 "is_integer" spInteger := by
  obtain ⟨fd, F⟩ := T.d_is_integer
  refine mk_cal0 ["thing"] ["thing"] F T.g_is_integer (C8.fnScope_by (by decide +kernel)) (fun _ _ _ _ _ _ us hl => match us, hl with | [_], _ => rfl) (fun vs H Q E h => ?_) (fun cdv A outer s H vs Q E hr h => ⟨_, pss_one (ps_ret (pe_and
      (pe_callB call_isi rfl T.f_isinstance (by decide +kernel) (pa_cons (pv 0) (pa_cons (pe_bltn (v := .ty "int") rfl T.f_int (by decide +kernel) rfl) pa_nil)))
      (pe_one (pe_not (pe_callB call_isi rfl T.f_isinstance (by decide +kernel) (pa_cons (pv 0) (pa_cons (pe_bltn (v := .ty "bool") rfl T.f_bool (by decide +kernel) rfl) pa_nil))))))), ?_⟩)
  · obtain ⟨n, rfl, _⟩ := h; rfl
  · obtain ⟨n, rfl, q⟩ := h
    refine ⟨_, rfl, _, _, _, _, true, rfl, .ty _, .base (.int n), kit_ty (by decide +kernel), true, rfl, iteT ?_⟩
    exact ⟨_, rfl, _, _, _, _, false, rfl, .ty _, .base (.int n), kit_ty (by decide +kernel), false, rfl, q⟩
/-! ### is_within -/
def spWithin : Sp := fun vs H Q _ => ∃ n a b : Int, vs = [.int n, .int a, .int b] ∧ Q (.bl (decide (a ≤ n) && decide (n ≤ b))) H
theorem ok_is_within (T : Txt K mg) : CalX P w K mg base CX0 2 "is_within" spWithin := by
  obtain ⟨fd, F⟩ := T.d_is_within
  refine mk_cal0 ["thing", "least", "most"] ["thing", "least", "most"] F T.g_is_within (C8.fnScope_by (by decide +kernel)) (fun _ _ _ _ _ _ us hl => match us, hl with | [_, _, _], _ => rfl) (fun vs H Q E h => ?_) (fun cdv A outer s H vs Q E hr h => ⟨_, pss_one (ps_ret (pe_and
      (pe_0 (ok_is_integer T) hr (by decide) rfl (pa_cons (pv 0) pa_nil))
      (pe_one (pe_chain op_le op_le (pv 1) (pv 0) (pv 2))))), ?_⟩)
  · obtain ⟨n, a, b, rfl, _⟩ := h; rfl
  · obtain ⟨n, a, b, rfl, q⟩ := h
    refine ⟨_, rfl, n, rfl, true, rfl, iteT ?_⟩
    refine ⟨_, rfl, _, rfl, _, _, rfl, rfl, _, rfl, ?_⟩
    by_cases c : a ≤ n
    · rw [decide_eq_true c] at q ⊢
      refine iteT ⟨_, rfl, _, _, rfl, rfl, ?_⟩
      simpa using q
    · rw [decide_eq_false c] at q ⊢
      exact iteF q
end
end K45

namespace K45
open PySem PySem.Spec PyProof.Rows L2
theorem le_line {n : Nat} (h : n ≤ 1000000) : n ≤ sizeLine := by rw [sizeLine_eq]; omega
theorem lt_line {n : Nat} (h : n ≤ 1000000) : n < sizeLine := by rw [sizeLine_eq]; omega
theorem sqT_ty {K : PySem.W.Frag} {H : Hp} {a : Addr} {xs : List V} (h : SqT K H a xs) : TyX K H (.ref a) (.type "tuple") := by
  rcases h with (h | ⟨o, h⟩) | ⟨o, its, n, h, hc, _⟩
  · exact .base (.tup h)
  · exact .fTuple h
  · exact .kTuple h hc
theorem pix {X : Cx} {b : Expr} (h : PlainIx b) : PlainIx b := h
section
variable {P : Program} {w : World} {K : PySem.W.Frag} {mg : Str → Option Value} {base : Heap}
/-! ### is_pair -/
def spPair (K : PySem.W.Frag) : Sp := fun vs H Q _ => ∃ a x y, vs = [.ref a] ∧ SqT K H a [x, y] ∧ Q (.bl true) H
theorem ok_is_pair (T : Txt K mg) : CalX P w K mg base CX0 1 "is_pair" (spPair K) := by
  obtain ⟨fd, F⟩ := T.d_is_pair
  refine mk_cal0 ["thing"] ["thing"] F T.g_is_pair (C8.fnScope_by (by decide +kernel)) (fun _ _ _ _ _ _ us hl => match us, hl with | [_], _ => rfl) (fun vs H Q E h => ?_) (fun cdv A outer s H vs Q E hr h => ⟨_, pss_one (ps_ret (pe_and
      (pe_callB call_isi rfl T.f_isinstance (by decide +kernel) (pa_cons (pv 0) (pa_cons (pe_bltn (v := .ty "tuple") rfl T.f_tuple (by decide +kernel) rfl) pa_nil)))
      (pe_one (pe_cmpR op_eq (pe_callB call_len rfl T.f_len boot_len (pa_cons (pv 0) pa_nil)) pe_int (nomark _))))), ?_⟩)
  · obtain ⟨a, x, y, rfl, _⟩ := h; rfl
  · obtain ⟨a, x, y, rfl, hS, q⟩ := h
    refine ⟨_, rfl, _, _, _, _, true, rfl, .ty _, sqT_ty hS, kit_ty (by decide +kernel), true, rfl, iteT ?_⟩
    exact ⟨_, rfl, _, 2, rfl, .inr ⟨_, hS, rfl⟩, rfl, q⟩
/-! ### is_sized -/
def spSized (K : PySem.W.Frag) : Sp := fun vs H Q _ => ∃ a xs, ∃ lo hi : Int, vs = [.ref a, .int lo, .int hi] ∧ SqT K H a xs ∧ Q (.bl (decide (lo ≤ (xs.length : Int)) && decide ((xs.length : Int) ≤ hi))) H
theorem ok_is_sized (T : Txt K mg) : CalX P w K mg base CX0 1 "is_sized" (spSized K) := by
  obtain ⟨fd, F⟩ := T.d_is_sized
  refine mk_cal0 ["thing", "least", "most"] ["thing", "least", "most"] F T.g_is_sized (C8.fnScope_by (by decide +kernel)) (fun _ _ _ _ _ _ us hl => match us, hl with | [_, _, _], _ => rfl) (fun vs H Q E h => ?_) (fun cdv A outer s H vs Q E hr h => ⟨_, pss_one (ps_ret (pe_and
      (pe_callB call_isi rfl T.f_isinstance (by decide +kernel) (pa_cons (pv 0) (pa_cons (pe_bltn (v := .ty "tuple") rfl T.f_tuple (by decide +kernel) rfl) pa_nil)))
      (pe_one (pe_chain op_le op_le (pv 1) (pe_callB call_len rfl T.f_len boot_len (pa_cons (pv 0) pa_nil)) (pv 2))))), ?_⟩)
  · obtain ⟨a, xs, lo, hi, rfl, _⟩ := h; rfl
  · obtain ⟨a, xs, lo, hi, rfl, hS, q⟩ := h
    refine ⟨_, rfl, _, _, _, _, true, rfl, .ty _, sqT_ty hS, kit_ty (by decide +kernel), true, rfl, iteT ?_⟩
    refine ⟨_, rfl, _, rfl, _, xs.length, rfl, .inr ⟨_, hS, rfl⟩, _, _, rfl, rfl, _, rfl, ?_⟩
    by_cases c : lo ≤ (xs.length : Int)
    · rw [decide_eq_true c] at q ⊢
      refine iteT ⟨_, rfl, _, _, rfl, rfl, ?_⟩
      simpa using q
    · rw [decide_eq_false c] at q ⊢
      exact iteF q
/-! ### are_integers -/
def spAreInts (K : PySem.W.Frag) : Sp := fun vs H Q _ => ∃ (a : Addr) (ns : List Int) (m : Int), vs = [.ref a, .int m] ∧ SqT K H a (ns.map V.int) ∧ ns.length ≤ 1000000 ∧ ∀ H', Same H H' → Q (.bl (decide ((ns.length : Int) = m))) H'
theorem ok_are_integers (T : Txt K mg) : CalX P w K mg base CX0 2 "are_integers" (spAreInts K) := by
  obtain ⟨fd, F⟩ := T.d_are_integers
  have sc : FnScope ["thing", "many", "item"] ["thing", "many"] (defScope (top 11)) := C8.fnScope_by (by decide +kernel)
  refine mk_cal0 ["thing", "many", "item"] ["thing", "many"] F T.g_are_integers sc (fun _ _ _ _ _ _ us hl => match us, hl with | [_, _], _ => rfl) (fun vs H Q E h => ?_) (fun cdv A outer s H vs Q E hr h => ⟨_, pss_one (ps_ret (pe_and
      (pe_0 (ok_is_sized T) hr (by decide) rfl (pa_cons (pv 0) (pa_cons (pv 1) (pa_cons (pv 1) pa_nil))))
      (pe_one (pe_callB (cr_all rfl) rfl T.f_all (by decide +kernel) (pa_cons (pe_lc (own := [("item", 2)]) (g := gName 2) (tt := tYes) rfl sc.nd (pi_tup (pv 0)) (blkOk_by (own := [("item", 2)]) (N := ["thing", "many", "item"]) (sc := defScope (top 11)) (by decide +kernel))
        (fun _ _ _ _ _ => pg_name (i := 2) sc.nd rfl (Or.inl rfl)) (fun _ _ _ _ _ => pts_nil) (fun _ _ _ _ _ => pe_0 (ok_is_integer T) hr (by decide) rfl (pa_cons (pv 2) pa_nil))) pa_nil))))), ?_⟩)
  · obtain ⟨a, xs, m, rfl, _⟩ := h; rfl
  · obtain ⟨a, ns, m, rfl, hS, hz, q⟩ := h
    refine ⟨_, rfl, _, rfl, _, rfl, a, ns.map V.int, m, m, rfl, hS, _, rfl, ?_⟩
    have e1 : (decide (m ≤ ((ns.map V.int).length : Int)) && decide (((ns.map V.int).length : Int) ≤ m)) = decide ((ns.length : Int) = m) := by
      rw [List.length_map]
      by_cases c : (ns.length : Int) = m
      · rw [decide_eq_true c, decide_eq_true (show m ≤ (ns.length : Int) by omega), decide_eq_true (show (ns.length : Int) ≤ m by omega)]; rfl
      · rw [decide_eq_false c]
        by_cases c2 : m ≤ (ns.length : Int)
        · rw [decide_eq_false (show ¬ (ns.length : Int) ≤ m by omega), Bool.and_false]
        · rw [decide_eq_false c2, Bool.false_and]
    rw [e1]
    by_cases c : (ns.length : Int) = m
    · rw [decide_eq_true c] at q ⊢
      refine iteT ?_
      refine ⟨_, rfl, a, rfl, ⟨_, hS⟩, fun D hD => lc_dp (K := K) (walk_tup (K := K) (a := a) (xs := ns.map V.int)) (ns.map fun _ => PyData.bool true) (by simp) (le_line (by simpa using hz)) hD (fun H1 h1 => sqT_ext (same_extN (h1.trans (del_sub _ _))) hS) yAt_same (fun i x H1 H2 d Qc hd h1 ha hY hQ => ?_) (fun H1 ys h1 hD2 hds => ?_)⟩
      · obtain ⟨rfl, hx⟩ := hY
        have hx' : (ns.map V.int)[i]? = some x := hx
        rw [List.getElem?_map] at hx' hd
        cases e : ns[i]? with
        | none => rw [e] at hx'; cases hx'
        | some n =>
          rw [e] at hx' hd
          cases hx'
          cases hd
          exact ⟨rfl, _, rfl, n, rfl, hQ _ _ (Same.refl _) (.bl true)⟩
      · have e2 := dpAll_bls (ns := ns.map fun _ => true) (by rw [List.map_map]; exact hds)
        subst e2
        refine ⟨D, _, rfl, SqL.of hD2, ?_⟩
        have e3 : (ns.map fun _ => true).all id = true := by simp
        rw [e3]
        exact q H1 (h1.trans (del_sub _ _))
    · rw [decide_eq_false c] at q ⊢
      exact iteF (q H (Same.refl _))
/-! ### is_size -/
def spSize (K : PySem.W.Frag) : Sp := fun vs H Q _ => ∃ (a : Addr) (p : II), vs = [.ref a] ∧ SqT K H a [.int p.1, .int p.2] ∧ Q (.bl (sizeOk p)) H
theorem ok_is_size (T : Txt K mg) : CalX P w K mg base CX0 3 "is_size" (spSize K) := by
  obtain ⟨fd, F⟩ := T.d_is_size
  obtain ⟨t, hM⟩ := T.i_MOST_SIZE
  refine mk_cal0 ["thing"] ["thing"] F T.g_is_size (C8.fnScope_by (by decide +kernel)) (fun _ _ _ _ _ _ us hl => match us, hl with | [_], _ => rfl) (fun vs H Q E h => ?_) (fun cdv A outer s H vs Q E hr h => ⟨_, pss_one (ps_ret (pe_and
      (pe_0 (ok_is_pair T) hr (by decide) rfl (pa_cons (pv 0) pa_nil))
      (pe_and (pe_0 (ok_is_within T) hr (by decide) rfl (pa_cons (pe_ix ix_tup (pv 0) pe_int (fun _ _ => rfl)) (pa_cons pe_int (pa_cons (pe_glob (v := .int 1000) rfl hM ⟨_, rfl⟩) pa_nil))))
      (pe_one (pe_0 (ok_is_within T) hr (by decide) rfl (pa_cons (pe_ix ix_tup (pv 0) pe_int (fun _ _ => rfl)) (pa_cons pe_int (pa_cons (pe_glob (v := .int 1000) rfl hM ⟨_, rfl⟩) pa_nil)))))))), ?_⟩)
  · obtain ⟨a, p, rfl, _⟩ := h; rfl
  · obtain ⟨a, p, rfl, hS, q⟩ := h
    refine ⟨_, rfl, a, _, _, rfl, hS, true, rfl, iteT ?_⟩
    refine ⟨_, rfl, a, _, 0, .int p.1, rfl, rfl, hS, rfl, p.1, 1, 1000, rfl, _, rfl, ?_⟩
    unfold sizeOk at q
    cases c : (decide (1 ≤ p.1) && decide (p.1 ≤ 1000)) with
    | true =>
      rw [c, Bool.true_and] at q
      refine iteT ⟨_, rfl, a, _, 1, .int p.2, rfl, rfl, hS, rfl, p.2, 1, 1000, rfl, q⟩
    | false =>
      rw [c, Bool.false_and] at q
      exact iteF q
/-! ### meet -/
def spMeet : Sp := fun vs H Q _ => ∃ b l ob ol : Int, vs = [.int b, .int l, .int ob, .int ol] ∧ Q (.bl (meetB b l ob ol)) H
theorem ok_meet (T : Txt K mg) : CalX P w K mg base CX0 1 "meet" spMeet := by
  obtain ⟨fd, F⟩ := T.d_meet
  refine mk_cal0 ["begin", "length", "other_begin", "other_length"] ["begin", "length", "other_begin", "other_length"] F T.g_meet (C8.fnScope_by (by decide +kernel)) (fun _ _ _ _ _ _ us hl => match us, hl with | [_, _, _, _], _ => rfl) (fun vs H Q E h => ?_) (fun cdv A outer s H vs Q E hr h => ⟨_, pss_one (ps_ret (pe_and
      (pe_cmpR op_lt (pv 0) (pe_op op_add (pv 2) (pv 3)) (nomark _)) (pe_one (pe_cmpR op_lt (pv 2) (pe_op op_add (pv 0) (pv 1)) (nomark _))))), ?_⟩)
  · obtain ⟨b, l, ob, ol, rfl, _⟩ := h; rfl
  · obtain ⟨b, l, ob, ol, rfl, q⟩ := h
    refine ⟨_, rfl, _, rfl, _, rfl, _, _, rfl, rfl, _, _, rfl, rfl, _, rfl, ?_⟩
    unfold meetB at q
    by_cases c : b < ob + ol
    · rw [decide_eq_true c, Bool.true_and] at q
      rw [decide_eq_true c]
      exact iteT ⟨_, rfl, _, rfl, _, rfl, _, _, rfl, rfl, _, _, rfl, rfl, q⟩
    · rw [decide_eq_false c, Bool.false_and] at q
      rw [decide_eq_false c]
      exact iteF q
/-! ### in_row, in_column, overlap -/
/-- the arguments of these: Boxes, a picture's places, two boxes -/
structure PicArgs (K : PySem.W.Frag) (H : Hp) (vs : List V) (ss ps : List II) (i j : Nat) (x pa : Addr) (xs : List V) : Prop where
  e : vs = [.ref x, .ref pa, .int i, .int j]
  b : BoxAt K H x ss
  p : SqT K H pa xs
  d : DpAll K H xs (ps.map encP)
  l : ps.length = ss.length
  hi : i < ss.length
  hj : j < ss.length
def spRow (K : PySem.W.Frag) : Sp := fun vs H Q _ => ∃ ss ps i j x pa xs, PicArgs K H vs ss ps i j x pa xs ∧ Q (.bl (meetB (at2 ps i).2 (at2 ss i).2 (at2 ps j).2 (at2 ss j).2)) H
def spCol (K : PySem.W.Frag) : Sp := fun vs H Q _ => ∃ ss ps i j x pa xs, PicArgs K H vs ss ps i j x pa xs ∧ Q (.bl (meetB (at2 ps i).1 (at2 ss i).1 (at2 ps j).1 (at2 ss j).1)) H
def spOv (K : PySem.W.Frag) : Sp := fun vs H Q _ => ∃ ss ps i j x pa xs, PicArgs K H vs ss ps i j x pa xs ∧ Q (.bl (ovB (at2 ss i) (at2 ss j) (at2 ps i) (at2 ps j))) H
theorem ok_in_row (T : Txt K mg) : CalX P w K mg base CX0 2 "in_row" (spRow K) := by
  obtain ⟨fd, F⟩ := T.d_in_row
  refine mk_cal0 ["boxes", "places", "one", "other"] ["boxes", "places", "one", "other"] F T.g_in_row (C8.fnScope_by (by decide +kernel)) (fun _ _ _ _ _ _ us hl => match us, hl with | [_, _, _, _], _ => rfl) (fun vs H Q E h => ?_) (fun cdv A outer s H vs Q E hr h => ⟨_, pss_one (ps_ret
      (pe_0 (ok_meet T) hr (by decide) rfl (pa_cons (pe_ix ix_tup (pe_ix ix_tup (pv 1) (pv 2) (fun _ _ => rfl)) pe_int (fun _ _ => rfl)) (pa_cons (pe_ix ix_tup (pe_ix ix_tup (pe_fld (pv 0) rfl) (pv 2) (fun _ _ => rfl)) pe_int (fun _ _ => rfl))
        (pa_cons (pe_ix ix_tup (pe_ix ix_tup (pv 1) (pv 3) (fun _ _ => rfl)) pe_int (fun _ _ => rfl)) (pa_cons (pe_ix ix_tup (pe_ix ix_tup (pe_fld (pv 0) rfl) (pv 3) (fun _ _ => rfl)) pe_int (fun _ _ => rfl)) pa_nil)))))), ?_⟩)
  · obtain ⟨ss, ps, i, j, x, pa, xs, A, _⟩ := h; rw [A.e]; rfl
  · obtain ⟨ss, ps, i, j, x, pa, xs, ⟨rfl, hb, hp, hd, hl, hi, hj⟩, q⟩ := h
    obtain ⟨dx, sv, hx, hsv⟩ := hb
    obtain ⟨sa, ys, rfl, hsa, hss⟩ := dp_tup hsv
    obtain ⟨b1, e1, s1⟩ := encPs_at hd (at2_get (hl ▸ hi))
    obtain ⟨b2, e2, s2⟩ := encPs_at hss (at2_get hi)
    obtain ⟨b3, e3, s3⟩ := encPs_at hd (at2_get (hl ▸ hj))
    obtain ⟨b4, e4, s4⟩ := encPs_at hss (at2_get hj)
    refine ⟨_, rfl, _, rfl, pa, xs, _, _, rfl, rfl, hp, atI_nat e1, b1, _, 1, _, rfl, rfl, s1, rfl, ?_⟩
    refine ⟨_, rfl, x, _, _, _, _, rfl, hx, T.cls, T.no_sizes, lk_s, _, rfl, sa, ys, _, _, rfl, rfl, hsa, atI_nat e2, b2, _, 1, _, rfl, rfl, s2, rfl, ?_⟩
    refine ⟨_, rfl, _, rfl, pa, xs, _, _, rfl, rfl, hp, atI_nat e3, b3, _, 1, _, rfl, rfl, s3, rfl, ?_⟩
    refine ⟨_, rfl, x, _, _, _, _, rfl, hx, T.cls, T.no_sizes, lk_s, _, rfl, sa, ys, _, _, rfl, rfl, hsa, atI_nat e4, b4, _, 1, _, rfl, rfl, s4, rfl, ?_⟩
    exact ⟨_, _, _, _, rfl, q⟩
theorem ok_in_column (T : Txt K mg) : CalX P w K mg base CX0 2 "in_column" (spCol K) := by
  obtain ⟨fd, F⟩ := T.d_in_column
  refine mk_cal0 ["boxes", "places", "one", "other"] ["boxes", "places", "one", "other"] F T.g_in_column (C8.fnScope_by (by decide +kernel)) (fun _ _ _ _ _ _ us hl => match us, hl with | [_, _, _, _], _ => rfl) (fun vs H Q E h => ?_) (fun cdv A outer s H vs Q E hr h => ⟨_, pss_one (ps_ret
      (pe_0 (ok_meet T) hr (by decide) rfl (pa_cons (pe_ix ix_tup (pe_ix ix_tup (pv 1) (pv 2) (fun _ _ => rfl)) pe_int (fun _ _ => rfl)) (pa_cons (pe_ix ix_tup (pe_ix ix_tup (pe_fld (pv 0) rfl) (pv 2) (fun _ _ => rfl)) pe_int (fun _ _ => rfl))
        (pa_cons (pe_ix ix_tup (pe_ix ix_tup (pv 1) (pv 3) (fun _ _ => rfl)) pe_int (fun _ _ => rfl)) (pa_cons (pe_ix ix_tup (pe_ix ix_tup (pe_fld (pv 0) rfl) (pv 3) (fun _ _ => rfl)) pe_int (fun _ _ => rfl)) pa_nil)))))), ?_⟩)
  · obtain ⟨ss, ps, i, j, x, pa, xs, A, _⟩ := h; rw [A.e]; rfl
  · obtain ⟨ss, ps, i, j, x, pa, xs, ⟨rfl, hb, hp, hd, hl, hi, hj⟩, q⟩ := h
    obtain ⟨dx, sv, hx, hsv⟩ := hb
    obtain ⟨sa, ys, rfl, hsa, hss⟩ := dp_tup hsv
    obtain ⟨b1, e1, s1⟩ := encPs_at hd (at2_get (hl ▸ hi))
    obtain ⟨b2, e2, s2⟩ := encPs_at hss (at2_get hi)
    obtain ⟨b3, e3, s3⟩ := encPs_at hd (at2_get (hl ▸ hj))
    obtain ⟨b4, e4, s4⟩ := encPs_at hss (at2_get hj)
    refine ⟨_, rfl, _, rfl, pa, xs, _, _, rfl, rfl, hp, atI_nat e1, b1, _, 0, _, rfl, rfl, s1, rfl, ?_⟩
    refine ⟨_, rfl, x, _, _, _, _, rfl, hx, T.cls, T.no_sizes, lk_s, _, rfl, sa, ys, _, _, rfl, rfl, hsa, atI_nat e2, b2, _, 0, _, rfl, rfl, s2, rfl, ?_⟩
    refine ⟨_, rfl, _, rfl, pa, xs, _, _, rfl, rfl, hp, atI_nat e3, b3, _, 0, _, rfl, rfl, s3, rfl, ?_⟩
    refine ⟨_, rfl, x, _, _, _, _, rfl, hx, T.cls, T.no_sizes, lk_s, _, rfl, sa, ys, _, _, rfl, rfl, hsa, atI_nat e4, b4, _, 0, _, rfl, rfl, s4, rfl, ?_⟩
    exact ⟨_, _, _, _, rfl, q⟩
theorem ok_overlap (T : Txt K mg) : CalX P w K mg base CX0 3 "overlap" (spOv K) := by
  obtain ⟨fd, F⟩ := T.d_overlap
  refine mk_cal0 ["boxes", "places", "one", "other"] ["boxes", "places", "one", "other"] F T.g_overlap (C8.fnScope_by (by decide +kernel)) (fun _ _ _ _ _ _ us hl => match us, hl with | [_, _, _, _], _ => rfl) (fun vs H Q E h => ?_) (fun cdv A outer s H vs Q E hr h => ⟨_, pss_one (ps_ret (pe_and
      (pe_0 (ok_in_row T) hr (by decide) rfl (pa_cons (pv 0) (pa_cons (pv 1) (pa_cons (pv 2) (pa_cons (pv 3) pa_nil)))))
      (pe_one (pe_0 (ok_in_column T) hr (by decide) rfl (pa_cons (pv 0) (pa_cons (pv 1) (pa_cons (pv 2) (pa_cons (pv 3) pa_nil)))))))), ?_⟩)
  · obtain ⟨ss, ps, i, j, x, pa, xs, A, _⟩ := h; rw [A.e]; rfl
  · obtain ⟨ss, ps, i, j, x, pa, xs, A, q⟩ := h
    have B := A
    obtain ⟨rfl, hb, hp, hd, hl, hi, hj⟩ := B
    refine ⟨_, rfl, _, rfl, _, rfl, _, rfl, ss, ps, i, j, x, pa, xs, A, _, rfl, ?_⟩
    unfold ovB at q
    cases c : meetB (at2 ps i).2 (at2 ss i).2 (at2 ps j).2 (at2 ss j).2 with
    | true =>
      rw [c, Bool.true_and] at q
      exact iteT ⟨_, rfl, _, rfl, _, rfl, _, rfl, ss, ps, i, j, x, pa, xs, A, q⟩
    | false =>
      rw [c, Bool.false_and] at q
      exact iteF q
end
end K45

namespace K45
open PySem PySem.Spec PyProof.Rows L2
/-- Boxes and a picture's places -/
structure PicData (K : PySem.W.Frag) (H : Hp) (x pa : Addr) (ss ps : List II) : Prop where
  b : BoxAt K H x ss
  p : ∃ xs, SqT K H pa xs ∧ DpAll K H xs (ps.map encP)
  l : ps.length = ss.length
  m : ss.length ≤ 40
theorem PicData.ext {K : PySem.W.Frag} {H H' : Hp} {x pa : Addr} {ss ps : List II} (h : PicData K H x pa ss ps) (e : Same H H') : PicData K H' x pa ss ps := by
  obtain ⟨b, ⟨xs, p, d⟩, l, m⟩ := h
  exact ⟨boxAt_ext (same_extN e) b, ⟨xs, sqT_ext (same_extN e) p, dpAll_ext e d⟩, l, m⟩
section
variable {P : Program} {w : World} {K : PySem.W.Frag} {mg : Str → Option Value} {base : Heap}
/-! ### all_overlaps -/
/-- nothing overlaps among the pairs (a, b), a below i -/
def freeTo (ss ps : List II) (i : Nat) : Prop := ∀ a b, a < i → a < b → b < ss.length → ovB (at2 ss a) (at2 ss b) (at2 ps a) (at2 ps b) = false
theorem freeTo_next {ss ps : List II} {i : Nat} : freeTo ss ps (i + 1) ↔ freeTo ss ps i ∧ ∀ b, i < b → b < ss.length → ovB (at2 ss i) (at2 ss b) (at2 ps i) (at2 ps b) = false := by
  constructor
  · intro h
    exact ⟨fun a b ha hb hl => h a b (by omega) hb hl, fun b hb hl => h i b (by omega) hb hl⟩
  · rintro ⟨h1, h2⟩ a b ha hb hl
    by_cases e : a = i
    · subst e; exact h2 b hb hl
    · exact h1 a b (by omega) hb hl
def spAllOv (K : PySem.W.Frag) : Sp := fun vs H Q _ => ∃ x pa ss ps, vs = [.ref x, .ref pa] ∧ PicData K H x pa ss ps ∧ ∀ H' f ys, Same H H' → H' f = some (.lst ys) → (ys.length = 0 ↔ okPic ss ps = true) → Q (.ref f) H'
theorem ok_all_overlaps (T : Txt K mg) : CalX P w K mg base CX0 4 "all_overlaps" (spAllOv K) := by
  obtain ⟨fd, F⟩ := T.d_all_overlaps
  have sc : FnScope ["boxes", "places", "found", "one", "other"] ["boxes", "places"] (defScope (top 22)) := C8.fnScope_by (by decide +kernel)
  refine mk_cal0 ["boxes", "places", "found", "one", "other"] ["boxes", "places"] F T.g_all_overlaps sc (fun _ _ _ _ _ _ us hl => match us, hl with | [_, _], _ => rfl) (fun vs H Q E h => ?_) (fun cdv A outer s H vs Q E hr h => ⟨_,
      pss_cons (ps_set (i := 2) sc.nd rfl (Or.inl rfl) (pe_lst pa_nil))
      (pss_cons (ps_for PassesOwn.never rfl (pi_range1 rfl T.f_range (pa_cons (pe_fld (pv 0) rfl) pa_nil)) (pg_name (i := 3) sc.nd rfl (Or.inr rfl))
        (pss_one (ps_expr (pe_bm PySem.F.plainAttrs_list PySem.F.slot_list_extend PySem.F.type_list_extend mt_extend (pv 2) (pa_cons
          (pe_lc (own := [("other", 4)]) (g := gName 4) rfl sc.nd (pi_range2 rfl T.f_range (pa_cons (pe_op op_add (pv 3) pe_int) (pa_cons (pe_fld (pv 0) rfl) pa_nil))) (blkOk_by (own := [("other", 4)]) (N := ["boxes", "places", "found", "one", "other"]) (sc := defScope (top 22)) (by decide +kernel))
            (fun _ _ _ _ _ => pg_name (i := 4) sc.nd rfl (Or.inl rfl)) (fun _ _ _ _ _ => pts_one (pt_val (pe_0 (ok_overlap T) hr (by decide) rfl (pa_cons (pv 0) (pa_cons (pv 1) (pa_cons (pv 3) (pa_cons (pv 4) pa_nil)))))))
            (fun _ _ _ _ _ => pe_tup (pa_cons (pv 3) (pa_cons (pv 4) pa_nil)))) pa_nil)))))
      (pss_one (ps_ret (pv 2)))), ?_⟩)
  · obtain ⟨x, pa, ss, ps, rfl, _⟩ := h; rfl
  · obtain ⟨x, pa, ss, ps, rfl, hP, q⟩ := h
    have hm := hP.m
    refine ⟨Nat.zero_le _, fun f hf => ?_⟩
    have S0 := same_upd (o := .lst []) hf
    obtain ⟨dx, sv, hx, hsv⟩ := hP.b
    refine ⟨_, rfl, x, _, _, _, _, rfl, S0 _ _ hx, T.cls, T.no_many, lk_m, _, rfl, by omega, by omega, for_range (lo := 0) (n := (ss.length : Int).toNat)
      (fun i σ H' => ∃ o3, σ = [some (.ref x), some (.ref pa), some (.ref f), o3, none] ∧ Same H (del H' f) ∧ ∃ ys, H' f = some (.lst ys) ∧ ys.length ≤ 40 * i ∧ (ys.length = 0 ↔ freeTo ss ps i)) ?_ ?_ ?_⟩
    · exact ⟨none, rfl, by rw [del_upd]; exact same_to_del (Same.refl _) hf, [], upd_same, Nat.zero_le _, ⟨fun _ a b ha => absurd ha (by omega), fun _ => rfl⟩⟩
    · rintro i σ H1 hi ⟨o3, rfl, S1, ys, hys, hyl, hyf⟩
      have S1' : Same H H1 := S1.trans (del_sub _ _)
      have hP1 := hP.ext S1'
      have hi' : i < ss.length := by simpa using hi
      have e0 : (0 : Int) + (i : Int) = (i : Int) := by omega
      rw [e0]
      obtain ⟨dx1, sv1, hx1, hsv1⟩ := hP1.b
      refine ⟨_, rfl, .inl ⟨rfl, _, .inl (.inl hys)⟩, ?_⟩
      refine ⟨_, rfl, _, _, rfl, rfl, _, rfl, x, _, _, _, _, rfl, hx1, T.cls, T.no_many, lk_m, _, _, rfl, ⟨by omega, by omega, by omega, by omega⟩, fun D hD => ?_⟩
      have fD : f ≠ D := ne_of_none hys hD
      refine lc_range (lo := (i : Int) + 1) (n := ((ss.length : Int) - ((i : Int) + 1)).toNat) (fun k H' => Same H1 (del H' D) ∧ ∃ zs, H' D = some (.lst zs) ∧ zs.length ≤ k ∧ (zs.length = 0 ↔ ∀ b, i < b → b < i + 1 + k → ovB (at2 ss i) (at2 ss b) (at2 ps i) (at2 ps b) = false)) ?_ ?_ ?_
      · exact ⟨by rw [del_upd]; exact same_to_del (Same.refl _) hD, [], upd_same, Nat.zero_le _, ⟨fun _ b h1 h2 => absurd h1 (by omega), fun _ => rfl⟩⟩
      · rintro k H2 hk ⟨S2, zs, hzs, hzl, hzf⟩
        have S2' : Same H1 H2 := S2.trans (del_sub _ _)
        have hP2 := hP1.ext S2'
        obtain ⟨xs, hpx, hdx⟩ := hP2.p
        have hj : i + 1 + k < ss.length := by omega
        have ej : (i : Int) + 1 + (k : Int) = ((i + 1 + k : Nat) : Int) := by omega
        rw [ej]
        refine ⟨rfl, _, rfl, _, rfl, _, rfl, _, rfl, ss, ps, i, i + 1 + k, x, pa, xs, ⟨rfl, hP2.b, hpx, hdx, hP2.l, hi', hj⟩, _, rfl, ?_⟩
        cases c : ovB (at2 ss i) (at2 ss (i + 1 + k)) (at2 ps i) (at2 ps (i + 1 + k)) with
        | true =>
          refine iteT ⟨_, rfl, _, rfl, (by show 2 ≤ sizeLine; decide), fun t ht => ⟨zs, ?_, by rw [sizeLine_eq]; omega, ?_, _, upd_same, ?_, ?_⟩⟩
          · exact (same_upd ht) _ _ hzs
          · rw [del_upd]
            exact S2.trans (same_del D (same_upd ht))
          · rw [List.length_append]
            simp only [List.length_cons, List.length_nil]
            omega
          · constructor
            · intro z
              rw [List.length_append] at z
              simp at z
            · intro z
              have := z (i + 1 + k) (by omega) (by omega)
              rw [c] at this
              cases this
        | false =>
          refine iteF ⟨S2, zs, hzs, by omega, ?_⟩
          rw [hzf]
          constructor
          · intro z b h1 h2
            by_cases e : b = i + 1 + k
            · subst e; exact c
            · exact z b h1 (by omega)
          · intro z b h1 h2
            exact z b h1 (by omega)
      · rintro H2 ⟨S2, zs, hzs, hzl, hzf⟩
        have S2' : Same H1 H2 := S2.trans (del_sub _ _)
        have hyf2 := S2' _ _ hys
        refine ⟨f, D, ys, zs, rfl, rfl, hyf2, hzs, by rw [sizeLine_eq]; omega, ?_⟩
        refine ⟨some (.int i), rfl, ?_, _, upd_same, ?_, ?_⟩
        · rw [del_upd]
          exact S1.trans (same_del f S2')
        · rw [List.length_append]; omega
        · rw [List.length_append, freeTo_next, ← hyf]
          have e3 : (∀ b, i < b → b < i + 1 + ((ss.length : Int) - ((i : Int) + 1)).toNat → ovB (at2 ss i) (at2 ss b) (at2 ps i) (at2 ps b) = false) ↔ (∀ b, i < b → b < ss.length → ovB (at2 ss i) (at2 ss b) (at2 ps i) (at2 ps b) = false) :=
            ⟨fun h b h1 h2 => h b h1 (by omega), fun h b h1 h2 => h b h1 (by omega)⟩
          rw [← e3, ← hzf]
          omega
    · rintro σ H1 ⟨o3, rfl, S1, ys, hys, hyl, hyf⟩
      refine ⟨_, rfl, q H1 f ys (S1.trans (del_sub _ _)) hys ?_⟩
      rw [hyf, okPic_ov]
      exact ⟨fun h a b hab hb => h a b (by omega) hab hb, fun h a b _ hab hb => h a b hab hb⟩
/-! ### are_places -/
def spArePl (K : PySem.W.Frag) : Sp := fun vs H Q _ => ∃ x pa ss ps, vs = [.ref x, .ref pa] ∧ PicData K H x pa ss ps ∧ ∀ H', Same H H' → Q (.bl true) H'
theorem ok_are_places (T : Txt K mg) : CalX P w K mg base CX0 3 "are_places" (spArePl K) := by
  obtain ⟨fd, F⟩ := T.d_are_places
  have sc : FnScope ["boxes", "thing", "place"] ["boxes", "thing"] (defScope (top 17)) := C8.fnScope_by (by decide +kernel)
  refine mk_cal0 ["boxes", "thing", "place"] ["boxes", "thing"] F T.g_are_places sc (fun _ _ _ _ _ _ us hl => match us, hl with | [_, _], _ => rfl) (fun vs H Q E h => ?_) (fun cdv A outer s H vs Q E hr h => ⟨_, pss_one (ps_ret (pe_and
      (pe_0 (ok_is_sized T) hr (by decide) rfl (pa_cons (pv 1) (pa_cons (pe_fld (pv 0) rfl) (pa_cons (pe_fld (pv 0) rfl) pa_nil))))
      (pe_one (pe_callB (cr_all rfl) rfl T.f_all (by decide +kernel) (pa_cons (pe_lc (own := [("place", 2)]) (g := gName 2) (tt := tYes) rfl sc.nd (pi_tup (pv 1)) (blkOk_by (own := [("place", 2)]) (N := ["boxes", "thing", "place"]) (sc := defScope (top 17)) (by decide +kernel))
        (fun _ _ _ _ _ => pg_name (i := 2) sc.nd rfl (Or.inl rfl)) (fun _ _ _ _ _ => pts_nil) (fun _ _ _ _ _ => pe_0 (ok_are_integers T) hr (by decide) rfl (pa_cons (pv 2) (pa_cons pe_int pa_nil)))) pa_nil))))), ?_⟩)
  · obtain ⟨x, pa, ss, ps, rfl, _⟩ := h; rfl
  · obtain ⟨x, pa, ss, ps, rfl, hP, q⟩ := h
    obtain ⟨dx, sv, hx, hsv⟩ := hP.b
    obtain ⟨xs, hpx, hdx⟩ := hP.p
    have hm := hP.m
    have hl := hP.l
    have hxl : xs.length = ps.length := by rw [dpAll_len hdx, List.length_map]
    refine ⟨_, rfl, _, rfl, x, _, _, _, _, rfl, hx, T.cls, T.no_many, lk_m, _, rfl, x, _, _, _, _, rfl, hx, T.cls, T.no_many, lk_m, pa, xs, _, _, rfl, hpx, _, rfl, ?_⟩
    rw [show (decide ((ss.length : Int) ≤ (xs.length : Int)) && decide ((xs.length : Int) ≤ (ss.length : Int))) = true from by
      rw [decide_eq_true (by omega), decide_eq_true (by omega)]; rfl]
    refine iteT ⟨_, rfl, pa, rfl, ⟨_, hpx⟩, fun D hD => lc_dp (K := K) (walk_tup (K := K) (a := pa) (xs := xs)) (xs.map fun _ => PyData.bool true) (by simp) (le_line (by omega)) hD (fun H1 h1 => sqT_ext (same_extN (h1.trans (del_sub _ _))) hpx) yAt_same (fun i y H1 H2 d Qc hd h1 ha hY hQ => ?_) (fun H1 ys h1 hD2 hds => ?_)⟩
    · obtain ⟨rfl, hy⟩ := hY
      have hy' : xs[i]? = some y := hy
      have hil : i < ps.length := by
        have := (List.getElem?_eq_some_iff.mp hy').1
        omega
      obtain ⟨b, e1, e2⟩ := encPs_at hdx (at2_get hil)
      rw [e1] at hy'
      cases hy'
      have ed : d = PyData.bool true := by
        rw [List.getElem?_map, e1] at hd
        cases hd
        rfl
      subst ed
      refine ⟨rfl, _, rfl, b, [(at2 ps i).1, (at2 ps i).2], 2, rfl, sqT_ext (same_extN (h1.trans (del_sub _ _))) e2, (by show 2 ≤ 1000000; decide), fun H3 h3 => hQ _ _ h3 (.bl true)⟩
    · have e2 := dpAll_bls (ns := xs.map fun _ => true) (by rw [List.map_map]; exact hds)
      subst e2
      refine ⟨D, _, rfl, SqL.of hD2, ?_⟩
      have e3 : (xs.map fun _ => true).all id = true := by simp
      rw [e3]
      exact q H1 (h1.trans (del_sub _ _))
/-! ### is_shown, check_picture -/
def spShown (K : PySem.W.Frag) : Sp := fun vs H Q _ => ∃ x pa ss ps, vs = [.ref x, .ref pa] ∧ PicData K H x pa ss ps ∧ ∀ H', Same H H' → Q (.bl (okPic ss ps)) H'
theorem ok_is_shown (T : Txt K mg) : CalX P w K mg base CX0 5 "is_shown" (spShown K) := by
  obtain ⟨fd, F⟩ := T.d_is_shown
  have sc : FnScope ["boxes", "thing"] ["boxes", "thing"] (defScope (top 23)) := C8.fnScope_by (by decide +kernel)
  refine mk_cal0 ["boxes", "thing"] ["boxes", "thing"] F T.g_is_shown sc (fun _ _ _ _ _ _ us hl => match us, hl with | [_, _], _ => rfl) (fun vs H Q E h => ?_) (fun cdv A outer s H vs Q E hr h => ⟨_, pss_one (ps_ret (pe_and
      (pe_0 (ok_are_places T) hr (by decide) rfl (pa_cons (pv 0) (pa_cons (pv 1) pa_nil)))
      (pe_one (pe_cmpR op_eq (pe_callB call_len rfl T.f_len boot_len (pa_cons (pe_0 (ok_all_overlaps T) hr (by decide) rfl (pa_cons (pv 0) (pa_cons (pv 1) pa_nil))) pa_nil)) pe_int (nomark _))))), ?_⟩)
  · obtain ⟨x, pa, ss, ps, rfl, _⟩ := h; rfl
  · obtain ⟨x, pa, ss, ps, rfl, hP, q⟩ := h
    refine ⟨_, rfl, _, rfl, x, pa, ss, ps, rfl, hP, fun H1 S1 => ⟨true, rfl, iteT ?_⟩⟩
    refine ⟨_, rfl, _, rfl, x, pa, ss, ps, rfl, hP.ext S1, fun H2 f ys S2 hf hyz => ?_⟩
    refine ⟨_, ys.length, rfl, .inl ⟨ys, SqL.of hf, rfl⟩, rfl, ?_⟩
    have e : decide (V.int (ys.length : Int) = V.int 0) = okPic ss ps := by
      cases c : okPic ss ps with
      | true =>
        have := hyz.mpr c
        rw [this]
        exact decide_eq_true rfl
      | false =>
        refine decide_eq_false fun z => ?_
        have z' : (ys.length : Int) = 0 := V.int.inj z
        have := hyz.mp (by omega)
        rw [c] at this
        cases this
    rw [e]
    exact q H2 (S1.trans S2)
def spCheckP (K : PySem.W.Frag) : Sp := fun vs H Q E => ∃ x pa ss ps, vs = [.ref x, .ref pa] ∧ PicData K H x pa ss ps ∧ (okPic ss ps = true → ∀ H', Same H H' → Q .non H') ∧ (okPic ss ps = false → ∀ H', Same H H' → E (.ref (cNP K)) none H')
theorem ok_check_picture (T : Txt K mg) : CalX P w K mg base (L2.CX P w) 6 "check_picture" (spCheckP K) := by
  obtain ⟨fd, F⟩ := T.d_check_picture
  obtain ⟨x1, x2, x3, x4⟩ := T.exc_NoPicture
  have sc : FnScope ["boxes", "thing"] ["boxes", "thing"] (defScope (top 24)) := C8.fnScope_by (by decide +kernel)
  refine mk_cal ["boxes", "thing"] ["boxes", "thing"] F T.g_check_picture sc (fun _ _ _ _ _ _ us hl => match us, hl with | [_, _], _ => rfl) (fun vs H Q E h => ?_) (fun cdv A outer s H vs Q E hr h => ⟨_, pss_one
      (ps_if (pt_not (pt_val (pe_0 (ok_is_shown T) hr (by decide) rfl (pa_cons (pv 0) (pa_cons (pv 1) pa_nil))))) (pss_one (ps_raise rfl (takes_of rfl rfl rfl rfl) (pmk_own0 PySem.F.excBase_ValueError x1 T.g_NoPicture x2 (raises_own x3 x4) rfl))) pss_nil), ?_⟩)
  · obtain ⟨x, pa, ss, ps, rfl, _⟩ := h; rfl
  · obtain ⟨x, pa, ss, ps, rfl, hP, q, qe⟩ := h
    refine ⟨_, rfl, _, rfl, x, pa, ss, ps, rfl, hP, fun H1 S1 => ⟨_, rfl, ?_⟩⟩
    cases c : okPic ss ps with
    | true => exact iteF (q c H1 S1)
    | false => exact iteT (qe c H1 S1)
end
end K45

namespace K45
open PySem PySem.Spec PyProof.Rows L2
/-- an error of the class at C goes out, its field f is n -/
def XOut (E : XK) (C : Addr) (f : Str) (n : Int) (H : Hp) : Prop := ∀ H' d, Same H H' → H d = none → H' d = some (.xd [(f, .int n)]) → E (.ref C) (some d) H'
theorem XOut.mono {E : XK} {C : Addr} {f : Str} {n : Int} {H H1 : Hp} (h : XOut E C f n H) (e : Same H H1) : XOut E C f n H1 := fun H' d a b c => h H' d (e.trans a) (e.free b) c
def spFld (C : Addr) (f : Str) : Sp := fun vs H Q _ => ∃ a v, vs = [.ref a, v] ∧ H a = some (exo a C none) ∧ ∀ dx, H dx = none → dx ≠ a → Q .non (upd (upd H dx (exd dx [(f, v)])) a (exo a C (some dx)))
theorem mko_ok {C : Addr} {f : Str} {n : Int} {H : Hp} {Q : XK} (q : XOut Q C f n H) : [V.int n].length ≤ 1000 ∧ ∀ a, H a = none → spFld C f (.ref a :: ([V.int n] ++ [])) (upd H a (exo a C none))
    (fun v H2 => v = .non ∧ ∃ (d : Addr) (fs : List (Str × V)), H2 a = some (exo a C (some d)) ∧ H2 d = some (exd d fs) ∧ H d = none ∧ Q (.ref C) (some d) (upd (del H2 a) d (.xd fs))) (fun _ _ _ => False) := by
  refine ⟨by show 1 ≤ 1000; decide, fun a ha => ⟨a, .int n, rfl, upd_same, fun dx hdx hne => ⟨rfl, dx, [(f, .int n)], upd_same, ?_, ?_, q _ _ ?_ ?_ upd_same⟩⟩⟩
  · rw [upd_ne hne, upd_same]
  · rw [upd_ne hne] at hdx; exact hdx
  · intro b o h
    have hd : H dx = none := by rw [upd_ne hne] at hdx; exact hdx
    rw [upd_ne (ne_of_none h hd), del_ne (ne_of_none h ha), upd_ne (ne_of_none h ha), upd_ne (ne_of_none h hd), upd_ne (ne_of_none h ha)]
    exact h
  · rw [upd_ne hne] at hdx; exact hdx
theorem canAll : ∀ {l : List PyData}, (∀ d ∈ l, d.canLay0 = true) → PyData.canLayAll0 l = true
  | [], _ => rfl
  | d :: l, h => by
    show (d.canLay0 && PyData.canLayAll0 l) = true
    rw [h d List.mem_cons_self, canAll fun e he => h e (List.mem_cons_of_mem _ he)]
    rfl
theorem depAll {n : Nat} : ∀ {l : List PyData}, (∀ d ∈ l, d.depth ≤ n) → PyData.depthAll l ≤ n
  | [], _ => Nat.zero_le _
  | d :: l, h => Nat.max_le.mpr ⟨h d List.mem_cons_self, depAll fun e he => h e (List.mem_cons_of_mem _ he)⟩
/-- what == may look at -/
def Nice (n : Nat) (d : PyData) : Prop := d.canLay0 = true ∧ d.depth ≤ n
theorem nice_tup {n : Nat} {l : List PyData} (h : ∀ d ∈ l, Nice n d) : Nice (n + 1) (.tuple l) := ⟨canAll fun d hd => (h d hd).1, Nat.succ_le_succ (depAll fun d hd => (h d hd).2)⟩
theorem nice_int {n : Nat} {i : Int} : Nice n (.int i) := ⟨rfl, Nat.zero_le _⟩
theorem nice_non {n : Nat} : Nice n .none := ⟨rfl, Nat.zero_le _⟩
theorem Nice.mono {n m : Nat} {d : PyData} (h : Nice n d) (e : n ≤ m) : Nice m d := ⟨h.1, Nat.le_trans h.2 e⟩
theorem Nice.shaped {n : Nat} {d : PyData} (h : Nice n d) (hn : n ≤ 64) : SeqAt.shaped d = true := Bool.and_eq_true_iff.mpr ⟨h.1, decide_eq_true (Nat.le_trans h.2 hn)⟩
theorem Nice.refl {n : Nat} {d : PyData} (h : Nice n d) : PyData.eqv d d = true := SeqAt.eqv_refl d h.1
theorem nice_ints {n : Nat} {ns : List Int} : Nice (n + 1) (.tuple (ns.map .int)) := nice_tup fun d hd => by
  obtain ⟨i, _, rfl⟩ := List.mem_map.mp hd
  exact nice_int
theorem nice_encP (p : II) : Nice 1 (encP p) := nice_ints (n := 0) (ns := [p.1, p.2])
theorem nice_encPs (l : List II) : Nice 2 (encPs l) := nice_tup fun d hd => by
  obtain ⟨i, _, rfl⟩ := List.mem_map.mp hd
  exact nice_encP i
section
variable {P : Program} {w : World} {K : PySem.W.Frag} {mg : Str → Option Value} {base : Heap}
/-! ### BadText.__init__, BadBoxes.__init__ -/
theorem ok_bt_init (T : Txt K mg) : ∃ fd, FnOk P w K mg base CX0 1 (He.ma K (cBT K) "__init__") fd ["self", "line"] (spFld (cBT K) "line") ∧ Binds K fd ["self", "line"] [] := by
  obtain ⟨fd, F⟩ := T.d_BadText_init
  have M := T.mo.bt
  refine ⟨fd, F.ok (N := ["self", "line"]) (C8.fnScope_by (by decide +kernel)) (fun vs H Q E h => ?_) (fun cdv A outer s H vs Q E hr h => ⟨_, PSs.nox (pss_one (ps_ost (pv 0) (pv 1))), ?_⟩), F.bindsN fun _ _ _ _ _ _ us hl => match us, hl with | [_, _], _ => rfl⟩
  · obtain ⟨a, v, rfl, _⟩ := h; rfl
  · obtain ⟨a, v, rfl, ha, q⟩ := h
    exact ⟨_, rfl, _, rfl, a, _, rfl, M.o, M.no, .inl ⟨ha, q⟩⟩
theorem ok_bb_init (T : Txt K mg) : ∃ fd, FnOk P w K mg base CX0 1 (He.ma K (cBB K) "__init__") fd ["self", "part"] (spFld (cBB K) "part") ∧ Binds K fd ["self", "part"] [] := by
  obtain ⟨fd, F⟩ := T.d_BadBoxes_init
  have M := T.mo.bb
  refine ⟨fd, F.ok (N := ["self", "part"]) (C8.fnScope_by (by decide +kernel)) (fun vs H Q E h => ?_) (fun cdv A outer s H vs Q E hr h => ⟨_, PSs.nox (pss_one (ps_ost (pv 0) (pv 1))), ?_⟩), F.bindsN fun _ _ _ _ _ _ us hl => match us, hl with | [_, _], _ => rfl⟩
  · obtain ⟨a, v, rfl, _⟩ := h; rfl
  · obtain ⟨a, v, rfl, ha, q⟩ := h
    exact ⟨_, rfl, _, rfl, a, _, rfl, M.o, M.no, .inl ⟨ha, q⟩⟩
/-! ### Boxes -/
def spBoxes (K : PySem.W.Frag) : Sp := fun vs H Q E => ∃ x dx sv ss, vs = [.ref x, sv] ∧ H x = some (.ins (cBx K) dx []) ∧ Dp K (del H x) sv (encPs ss) ∧ ss.length ≤ 1000000 ∧
  (badPart ss = none → ∀ H', Same (del H x) (del H' x) → H' x = some (.ins (cBx K) dx [(("sizes" : Str), sv), (("many" : Str), .int ss.length)]) → Q .non H') ∧ (∀ p, badPart ss = some p → XOut E (cBB K) "part" p H)
theorem ok_boxes_init (T : Txt K mg) : ∃ fd, FnOk P w K mg base (L2.CX P w) 4 (He.ma K (cBx K) "__init__") fd ["self", "sizes"] (spBoxes K) ∧ Binds K fd ["self", "sizes"] [] := by
  obtain ⟨fd, F⟩ := T.d_Boxes_init
  obtain ⟨fb, FB, BB⟩ := ok_bb_init (P := P) (w := w) (base := base) T
  obtain ⟨t, hM⟩ := T.i_MOST_BOXES
  have M := T.mo.bb
  have sc : FnScope ["self", "sizes", "number", "size"] ["self", "sizes"] (defScope (inClass (top 16) 0)) := C8.fnScope_by (by decide +kernel)
  refine ⟨fd, F.ok sc (fun vs H Q E h => ?_) (fun cdv A outer s H vs Q E hr h => ⟨_,
      pss_cons (ps_if (pt_not (pt_val (pe_0 (ok_is_sized T) hr (by decide) rfl (pa_cons (pv 1) (pa_cons pe_int (pa_cons (pe_glob (v := .int 40) rfl hM ⟨_, rfl⟩) pa_nil))))))
        (pss_one (ps_raise rfl (takes_of rfl rfl rfl rfl) (pmk_oex M.o M.iC M.tI FB (hr.mono (by decide)) BB .nil pass0 rfl T.g_BadBoxes (pa_cons (pe_un un_neg pe_int) pa_nil)))) pss_nil)
      (pss_cons (ps_for (passes_of rfl) rfl (pi_enumT rfl T.f_enumerate (pa_cons (pv 1) pa_nil)) (pg_tup rfl (pgs_cons (pg_name (i := 2) sc.nd rfl (Or.inl rfl)) (pgs_cons (pg_name (i := 3) sc.nd rfl (Or.inl rfl)) pgs_nil)))
        (pss_one (ps_if (pt_not (pt_val (pe_0 (ok_is_size T) hr (by decide) rfl (pa_cons (pv 3) pa_nil))))
          (pss_one (ps_raise rfl (takes_of rfl rfl rfl rfl) (pmk_oex M.o M.iC M.tI FB (hr.mono (by decide)) BB .nil pass0 rfl T.g_BadBoxes (pa_cons (pv 2) pa_nil)))) pss_nil)))
      (pss_cons (ps_fld (pv 0) (pv 1) rfl)
      (pss_one (ps_fld (pv 0) (pe_callB call_len rfl T.f_len boot_len (pa_cons (pv 1) pa_nil)) rfl)))), ?_⟩), F.bindsN fun _ _ _ _ _ _ us hl => match us, hl with | [_, _], _ => rfl⟩
  · obtain ⟨x, dx, sv, ss, rfl, _⟩ := h; rfl
  · obtain ⟨x, dx, sv, ss, rfl, hx, hd, hz, q, qe⟩ := h
    obtain ⟨sa, xs, rfl, hsa, hxs⟩ := dp_tup hd
    have hxl : xs.length = ss.length := by rw [dpAll_len hxs, List.length_map]
    have hS : SqT K H sa xs := sqT_ext (same_extN (del_sub _ _)) hsa
    refine ⟨_, rfl, sa, xs, _, _, rfl, hS, _, rfl, ?_⟩
    rw [hxl]
    by_cases c : 1 ≤ ss.length ∧ ss.length ≤ 40
    · rw [show (decide ((1 : Int) ≤ (ss.length : Int)) && decide ((ss.length : Int) ≤ 40)) = true from by
        rw [decide_eq_true (by omega), decide_eq_true (by omega)]; rfl]
      refine iteF ?_
      refine ⟨_, rfl, sa, xs, rfl, hS, for_it (walk_enumT (K := K) (a := sa) (xs := xs) (k0 := 0)) (fun i σ H' => ∃ o2 o3, σ = [some (.ref x), some (.ref sa), o2, o3] ∧ Same H H' ∧ ∀ j s', j < i → ss[j]? = some s' → sizeOk s' = true) ?_ ?_ ?_ ?_⟩
      · exact ⟨none, none, rfl, Same.refl _, fun j s' hj => absurd hj (by omega)⟩
      · rintro i σ H1 hi ⟨o2, o3, rfl, S1, hok⟩
        exact sqT_ext (same_extN S1) hS
      · rintro i y σ H1 H2 hi ⟨o2, o3, rfl, S1, hok⟩ ⟨t1, a1, b1, rfl, ht, rfl, e1, e2⟩
        have hi' : i < ss.length := by omega
        obtain ⟨b, e3, e4⟩ := encPs_at hxs (at2_get hi')
        have e2' : xs[i]? = some b1 := e2
        rw [e3] at e2'
        cases e2'
        cases e1
        have S2 := S1.trans (same_upd (o := .tup [.int (0 + (i : Int)), .ref b]) ht)
        refine ⟨t1, _, rfl, SqT.of upd_same, rfl, _, _, rfl, _, _, rfl, rfl, ?_⟩
        refine ⟨_, rfl, b, at2 ss i, rfl, sqT_ext (same_extN ((del_sub _ _).trans S2)) e4, _, rfl, ?_⟩
        cases c2 : sizeOk (at2 ss i) with
        | true =>
          refine iteF ⟨_, _, rfl, S2, fun j s' hj hs => ?_⟩
          by_cases e : j = i
          · subst e
            rw [at2_get hi'] at hs
            cases hs
            exact c2
          · exact hok j s' (by omega) hs
        | false =>
          refine iteT ⟨_, rfl, mko_ok ?_⟩
          have e0 : (0 : Int) + (i : Int) = (i : Int) := by omega
          rw [e0] at S2 ⊢
          exact (qe i (bad_some c.1 c.2 (at2_get hi') c2 hok)).mono S2
      · rintro σ H1 ⟨o2, o3, rfl, S1, hok⟩
        have hb := bad_none c.1 c.2 (fun j s' hj hs => hok j s' (by omega) hs)
        have hx1 := S1 _ _ hx
        refine ⟨_, rfl, _, rfl, x, _, _, _, rfl, hx1, T.cls, T.no_sizes, by decide, ?_⟩
        have S3 : Same (del H x) (del (upd H1 x (.ins (cBx K) dx (putF "sizes" (.ref sa) []))) x) := by
          rw [del_upd]
          exact same_del x S1
        refine ⟨_, rfl, _, ss.length, rfl, .inr ⟨xs, sqT_ext (same_extN (S3.trans (del_sub _ _))) hsa, hxl.symm⟩, _, rfl, x, _, _, _, rfl, upd_same, T.cls, T.no_many, (by show 1 < 1000; decide), q hb _ ?_ ?_⟩
        · rw [del_upd]; exact S3
        · rw [upd_same]
          have e : putF ("many" : Str) (V.int (ss.length : Int)) (putF "sizes" (.ref sa) []) = [(("sizes" : Str), .ref sa), (("many" : Str), .int ss.length)] := by
            have n : ¬ (("sizes" : Str) = ("many" : Str)) := by decide +kernel
            simp [putF, n]
          rw [e]
    · have e : (decide ((1 : Int) ≤ (ss.length : Int)) && decide ((ss.length : Int) ≤ 40)) = false := by
        by_cases c1 : 1 ≤ ss.length
        · rw [decide_eq_false (show ¬ ((ss.length : Int) ≤ 40) by omega), Bool.and_false]
        · rw [decide_eq_false (show ¬ ((1 : Int) ≤ (ss.length : Int)) by omega), Bool.false_and]
      rw [e]
      refine iteT ⟨_, rfl, mko_ok ?_⟩
      exact qe (-1) (bad_len c)
/-- right Boxes of the same sizes -/
def SameBx (K : PySem.W.Frag) (a b : Addr) (H : Hp) : Prop := ∃ ss, BoxAt K H a ss ∧ BoxAt K H b ss
theorem ok_boxes_eq (T : Txt K mg) : ∃ fd, FnOk P w K mg base CX0 1 (He.ma K (cBx K) "__eq__") fd ["self", "other"] (spEq (SameBx K)) ∧ Binds K fd ["self", "other"] [] := by
  obtain ⟨fd, F⟩ := T.d_Boxes_eq
  have M := T.mo
  refine ⟨fd, F.ok (N := ["self", "other"]) (C8.fnScope_by (by decide +kernel)) (fun vs H Q E h => ?_) (fun cdv A outer s H vs Q E hr h => ⟨_, PSs.nox (pss_one (ps_ret (pe_and
      (pe_callB call_isi rfl T.f_isinstance (by decide +kernel) (pa_cons (pv 1) (pa_cons (pe_glob (v := .ref (cBx K)) rfl T.g_Boxes rfl) pa_nil)))
      (pe_one (pe_cmpR (op_eqD hr.units) (pe_fld (pv 0) rfl) (pe_fld (pv 1) rfl) (nomark _)))))), ?_⟩), F.bindsN fun _ _ _ _ _ _ us hl => match us, hl with | [_, _], _ => rfl⟩
  · obtain ⟨a, b, rfl, _⟩ := h; rfl
  · obtain ⟨a, b, rfl, ⟨ss, ⟨da, sa, ha, hsa⟩, ⟨db, sb, hb, hsb⟩⟩, q⟩ := h
    refine ⟨_, rfl, _, _, _, _, true, rfl, .own _, .base (.ins hb T.cls M.isB.ha M.isB.hn M.isB.ht M.isB.hm), M.k3, true, rfl, iteT ?_⟩
    refine ⟨_, rfl, a, _, _, _, _, rfl, ha, T.cls, T.no_sizes, lk_s, _, rfl, b, _, _, _, _, rfl, hb, T.cls, T.no_sizes, lk_s, _, _, hsa, hsb, (nice_encPs ss).shaped (by decide), (nice_encPs ss).shaped (by decide), ?_⟩
    rw [(nice_encPs ss).refl]
    exact q H (fun _ _ z => z)
/-! ### is_word, is_stroke, is_form -/
def isWay (s : Str) : Prop := s = sLv ∨ s = sUp
theorem way_in {s : Str} (h : isWay s) : inV (.str s) [.str "level", .str "upright"] = true := by
  rcases h with h | h
  · rw [h]; decide +kernel
  · rw [h]; decide +kernel
def spWord : Sp := fun vs H Q _ => ∃ s, vs = [.str s] ∧ isWay s ∧ ∀ H', Same H H' → Q (.bl true) H'
theorem ok_is_word (T : Txt K mg) : CalX P w K mg base CX0 1 "is_word" spWord := by
  obtain ⟨fd, F⟩ := T.d_is_word
  obtain ⟨t1, h1⟩ := T.s_LEVEL
  obtain ⟨t2, h2⟩ := T.s_UPRIGHT
  refine mk_cal0 ["thing"] ["thing"] F T.g_is_word (C8.fnScope_by (by decide +kernel)) (fun _ _ _ _ _ _ us hl => match us, hl with | [_], _ => rfl) (fun vs H Q E h => ?_) (fun cdv A outer s H vs Q E hr h => ⟨_, pss_one (ps_ret (pe_and
      (pe_callB call_isi rfl T.f_isinstance (by decide +kernel) (pa_cons (pv 0) (pa_cons (pe_bltn (v := .ty "str") rfl T.f_str (by decide +kernel) rfl) pa_nil)))
      (pe_one (pe_cmpR op_in_seq (pv 0) (pe_tup (pa_cons (pe_glob (v := .str "level") rfl h1 ⟨_, rfl⟩) (pa_cons (pe_glob (v := .str "upright") rfl h2 ⟨_, rfl⟩) pa_nil))) rfl)))), ?_⟩)
  · obtain ⟨s, rfl, _⟩ := h; rfl
  · obtain ⟨s, rfl, hs, q⟩ := h
    refine ⟨_, rfl, _, _, _, _, true, rfl, .ty _, .base (.str s), kit_ty (by decide +kernel), true, rfl, iteT ?_⟩
    refine ⟨_, rfl, (by show 2 ≤ sizeLine; decide), fun p hp => ⟨p, _, rfl, .inr (SqT.of upd_same), rfl, rfl, ?_⟩⟩
    show Q (.bl (if false = true then _ else inV (.str s) [.str "level", .str "upright"])) _
    rw [if_neg Bool.false_ne_true, way_in hs]
    exact q _ (same_upd hp)
/-- a row that may be a stroke -/
def strokeRow (r : Row) : Prop := isWay r.1 ∧ r.2.length ≤ 1000000
def spStroke (K : PySem.W.Frag) : Sp := fun vs H Q _ => ∃ x ss v r, vs = [.ref x, v] ∧ BoxAt K H x ss ∧ Dp K H v (encR r) ∧ strokeRow r ∧ ∀ H', Same H H' → Q (.bl (decide (r.2.length = ss.length))) H'
theorem ok_is_stroke (T : Txt K mg) : CalX P w K mg base CX0 3 "is_stroke" (spStroke K) := by
  obtain ⟨fd, F⟩ := T.d_is_stroke
  refine mk_cal0 ["boxes", "thing"] ["boxes", "thing"] F T.g_is_stroke (C8.fnScope_by (by decide +kernel)) (fun _ _ _ _ _ _ us hl => match us, hl with | [_, _], _ => rfl) (fun vs H Q E h => ?_) (fun cdv A outer s H vs Q E hr h => ⟨_, pss_one (ps_ret (pe_and
      (pe_0 (ok_is_pair T) hr (by decide) rfl (pa_cons (pv 1) pa_nil))
      (pe_and (pe_0 (ok_is_word T) hr (by decide) rfl (pa_cons (pe_ix ix_tup (pv 1) pe_int (fun _ _ => rfl)) pa_nil))
      (pe_one (pe_0 (ok_are_integers T) hr (by decide) rfl (pa_cons (pe_ix ix_tup (pv 1) pe_int (fun _ _ => rfl)) (pa_cons (pe_fld (pv 0) rfl) pa_nil))))))), ?_⟩)
  · obtain ⟨x, ss, v, r, rfl, _⟩ := h; rfl
  · obtain ⟨x, ss, v, r, rfl, ⟨dx, sv, hx, hsv⟩, hv, ⟨hw, hl⟩, q⟩ := h
    obtain ⟨a, ys, rfl, ha, hys⟩ := dp_tup hv
    cases hys with
    | cons h1 hys =>
      cases hys with
      | cons h2 hys =>
        cases hys
        cases dp_str h1
        obtain ⟨b, zs, rfl, hb, hzs⟩ := dp_tup h2
        cases dpAll_ints hzs
        refine ⟨_, rfl, a, _, _, rfl, ha, true, rfl, iteT ?_⟩
        refine ⟨_, rfl, a, _, 0, _, rfl, rfl, ha, rfl, r.1, rfl, hw, fun H1 S1 => ⟨true, rfl, iteT ?_⟩⟩
        refine ⟨_, rfl, a, _, 1, _, rfl, rfl, sqT_ext (same_extN S1) ha, rfl, _, rfl, x, _, _, _, _, rfl, S1 _ _ hx, T.cls, T.no_many, lk_m, b, r.2, _, rfl, sqT_ext (same_extN S1) hb, hl, fun H2 S2 => ?_⟩
        have e : decide ((r.2.length : Int) = (ss.length : Int)) = decide (r.2.length = ss.length) := by
          by_cases c : r.2.length = ss.length
          · rw [decide_eq_true c, decide_eq_true (by omega)]
          · rw [decide_eq_false c, decide_eq_false (by omega)]
        rw [e]
        exact q H2 (S1.trans S2)
def spForm (K : PySem.W.Frag) : Sp := fun vs H Q _ => ∃ (x : Addr) (ss : List II) (v : V) (rows : List Row), vs = [.ref x, v] ∧ BoxAt K H x ss ∧ Dp K H v (.tuple (rows.map encR)) ∧ rows.length ≤ 1000000 ∧ (∀ r ∈ rows, strokeRow r) ∧
  ∀ H', Same H H' → Q (.bl (decide (rows.length ≤ 200) && rows.all fun r => decide (r.2.length = ss.length))) H'
theorem ok_is_form (T : Txt K mg) : CalX P w K mg base CX0 4 "is_form" (spForm K) := by
  obtain ⟨fd, F⟩ := T.d_is_form
  obtain ⟨t, hM⟩ := T.i_MOST_STROKES
  have sc : FnScope ["boxes", "thing", "stroke"] ["boxes", "thing"] (defScope (top 32)) := C8.fnScope_by (by decide +kernel)
  refine mk_cal0 ["boxes", "thing", "stroke"] ["boxes", "thing"] F T.g_is_form sc (fun _ _ _ _ _ _ us hl => match us, hl with | [_, _], _ => rfl) (fun vs H Q E h => ?_) (fun cdv A outer s H vs Q E hr h => ⟨_, pss_one (ps_ret (pe_and
      (pe_0 (ok_is_sized T) hr (by decide) rfl (pa_cons (pv 1) (pa_cons pe_int (pa_cons (pe_glob (v := .int 200) rfl hM ⟨_, rfl⟩) pa_nil))))
      (pe_one (pe_callB (cr_all rfl) rfl T.f_all (by decide +kernel) (pa_cons (pe_lc (own := [("stroke", 2)]) (g := gName 2) (tt := tYes) rfl sc.nd (pi_tup (pv 1)) (blkOk_by (own := [("stroke", 2)]) (N := ["boxes", "thing", "stroke"]) (sc := defScope (top 32)) (by decide +kernel))
        (fun _ _ _ _ _ => pg_name (i := 2) sc.nd rfl (Or.inl rfl)) (fun _ _ _ _ _ => pts_nil) (fun _ _ _ _ _ => pe_0 (ok_is_stroke T) hr (by decide) rfl (pa_cons (pv 0) (pa_cons (pv 2) pa_nil)))) pa_nil))))), ?_⟩)
  · obtain ⟨x, ss, v, rows, rfl, _⟩ := h; rfl
  · obtain ⟨x, ss, v, rows, rfl, hx, hv, hz, hr', q⟩ := h
    obtain ⟨a, xs, rfl, ha, hxs⟩ := dp_tup hv
    have hxl : xs.length = rows.length := by rw [dpAll_len hxs, List.length_map]
    refine ⟨_, rfl, a, xs, _, _, rfl, ha, _, rfl, ?_⟩
    rw [hxl]
    have e : (decide ((0 : Int) ≤ (rows.length : Int)) && decide ((rows.length : Int) ≤ 200)) = decide (rows.length ≤ 200) := by
      rw [decide_eq_true (show (0 : Int) ≤ (rows.length : Int) by omega), Bool.true_and]
      by_cases c : rows.length ≤ 200
      · rw [decide_eq_true c, decide_eq_true (by omega)]
      · rw [decide_eq_false c, decide_eq_false (by omega)]
    rw [e]
    cases c : decide (rows.length ≤ 200) with
    | false =>
      rw [c, Bool.false_and] at q
      exact iteF (q H (Same.refl _))
    | true =>
      rw [c, Bool.true_and] at q
      refine iteT ⟨_, rfl, a, rfl, ⟨_, ha⟩, fun D hD => lc_dp (K := K) (walk_tup (K := K) (a := a) (xs := xs)) (rows.map fun r => PyData.bool (decide (r.2.length = ss.length))) (by rw [List.length_map, hxl]) (le_line (by omega)) hD (fun H1 h1 => sqT_ext (same_extN (h1.trans (del_sub _ _))) ha) yAt_same (fun i y H1 H2 d Qc hd h1 hacc hY hQ => ?_) (fun H1 ys h1 hD2 hds => ?_)⟩
      · obtain ⟨rfl, hy⟩ := hY
        have hy' : xs[i]? = some y := hy
        rw [List.getElem?_map] at hd
        cases e2 : rows[i]? with
        | none => rw [e2] at hd; cases hd
        | some r =>
          rw [e2] at hd
          cases hd
          obtain ⟨d', e3, e4⟩ := dpAll_get hxs hy'
          rw [List.getElem?_map, e2] at e3
          cases e3
          refine ⟨rfl, _, rfl, _, rfl, x, ss, y, r, rfl, boxAt_ext (same_extN (h1.trans (del_sub _ _))) hx, dp_ext (h1.trans (del_sub _ _)) e4, hr' r (List.mem_of_getElem? e2), fun H3 h3 => hQ _ _ h3 (.bl _)⟩
      · have e2 := dpAll_bls (ns := rows.map fun r => decide (r.2.length = ss.length)) (by rw [List.map_map]; exact hds)
        subst e2
        refine ⟨D, _, rfl, SqL.of hD2, ?_⟩
        have e3 : (rows.map fun r => decide (r.2.length = ss.length)).all id = rows.all fun r => decide (r.2.length = ss.length) := by
          rw [List.all_map]; rfl
        rw [e3]
        exact q H1 (h1.trans (del_sub _ _))
end
end K45

namespace K45
open PySem PySem.Spec PyProof.Rows L2
/-! ### cuts -/
theorem sIx0 (n : Nat) : HT.sIx n 0 none = 0 := rfl
theorem sIxn (n : Nat) : HT.sIx n n none = n := rfl
theorem sIx_one (n d : Nat) : HT.sIx n d (some 1) = min 1 n := HT.sIx_nat n d 1
theorem tl_mk' (l : List Nat) : TL.tl (⟨l.toArray⟩ : Str) = l := TL.tl_mk l
theorem tl_head (w : Str) : TL.tl (cutS w none (some 1)) = (TL.tl w).take 1 := by
  unfold cutS
  rw [sIx0, sIx_one, tl_mk', List.drop_zero, Nat.sub_zero]
  by_cases h : w.length = 0
  · have : (TL.tl w).length = 0 := by rw [len_tl']; exact h
    have e : TL.tl w = [] := List.length_eq_zero_iff.mp this
    have e' : w.cps.toList = [] := e
    rw [e', e]; simp
  · rw [Nat.min_eq_left (by omega)]
theorem tl_rest (w : Str) : TL.tl (cutS w (some 1) none) = (TL.tl w).drop 1 := by
  unfold cutS
  rw [sIxn, sIx_one, tl_mk']
  have hl : w.cps.toList.length = w.length := len_tl' w
  by_cases h : w.length = 0
  · have e' : w.cps.toList = [] := List.length_eq_zero_iff.mp (by omega)
    have e : TL.tl w = [] := e'
    rw [e', e]; simp
  · rw [Nat.min_eq_left (by omega)]
    exact List.take_of_length_le (by rw [List.length_drop, hl]; exact Nat.le_refl _)
theorem cut_len (w : Str) : (cutS w (some 1) none).length ≤ w.length := cutS_length w _ _
theorem str_eq (a b : Str) : decide (V.str a = V.str b) = decide (TL.tl a = TL.tl b) := by
  by_cases h : TL.tl a = TL.tl b
  · rw [decide_eq_true h, TL.ext_tl h]; exact decide_eq_true rfl
  · rw [decide_eq_false h]
    exact decide_eq_false fun z => h (by rw [V.str.inj z])
theorem cutV_butlast (xs : List V) : cutV xs none (some (-1)) = xs.dropLast := by
  unfold cutV
  rw [sIx0, List.drop_zero, Nat.sub_zero, List.dropLast_eq_take]
  have : HT.sIx xs.length xs.length (some (-1)) = xs.length - 1 := by
    show (if (-1 : Int) < 0 then ((-1 : Int) + (xs.length : Int)).toNat else min (-1 : Int).toNat xs.length) = xs.length - 1
    rw [if_pos (by decide)]
    omega
  rw [this]
theorem cutV_tail (xs : List V) : cutV xs (some 1) none = xs.tail := by
  unfold cutV
  rw [sIxn, sIx_one]
  cases xs with
  | nil => rfl
  | cons x r =>
    have : min 1 (x :: r).length = 1 := by simp
    rw [this]
    simp
theorem atI_end {α : Type} {xs : List α} {v : α} (h : xs.getLast? = some v) : atI xs (-1) = some v := by
  have hne : xs ≠ [] := fun z => by rw [z] at h; cases h
  have e := List.dropLast_concat_getLast hne
  have e2 : xs.getLast hne = v := by
    rw [List.getLast?_eq_some_getLast hne] at h
    exact Option.some.inj h
  rw [← e, e2]
  exact atI_last _ _
/-! ### what is no text -/
def NotStr (K : PySem.W.Frag) (H : Hp) (v : V) : Prop := ∃ t, TyX K H v t ∧ PySem.W.kitOne K t (.type "str") = some false
/-- a new list of flat values -/
theorem lst_free {K : PySem.W.Frag} {H H1 : Hp} {p a : Addr} {o : HO} {xs : List V} {ds : List PyData} (S : Same H H1) (n : H1 p = none) (ha : H a = some o) (h : DpAll K (del H1 a) xs ds) : Dp K (del (upd H1 p (.lst xs)) a) (.ref p) (.list ds) := by
  have hpa : p ≠ a := Ne.symm (ne_of_none (S _ _ ha) n)
  rw [del_upd_ne hpa]
  exact lst_new (by rw [del_ne hpa]; exact n) h
section
variable {P : Program} {w : World} {K : PySem.W.Frag} {mg : Str → Option Value} {base : Heap}
/-! ### is_number_word, is_integer_word -/
theorem dig_in (c : Nat) : decide (c ∈ (("0123456789" : Str)).cps.toList) = isDig c := by
  have e : (("0123456789" : Str)).cps.toList = [48, 49, 50, 51, 52, 53, 54, 55, 56, 57] := by decide +kernel
  rw [e]
  unfold isDig
  by_cases h : 48 ≤ c ∧ c ≤ 57
  · rw [decide_eq_true h.1, decide_eq_true h.2]
    refine decide_eq_true ?_
    simp only [List.mem_cons, List.not_mem_nil, or_false]
    omega
  · have : ¬ c ∈ [48, 49, 50, 51, 52, 53, 54, 55, 56, 57] := fun z => h (by
      simp only [List.mem_cons, List.not_mem_nil, or_false] at z
      omega)
    rw [decide_eq_false this]
    by_cases h1 : 48 ≤ c
    · rw [decide_eq_false (show ¬ c ≤ 57 from fun z => h ⟨h1, z⟩), Bool.and_false]
    · rw [decide_eq_false h1, Bool.false_and]
def spNumber : Sp := fun vs H Q _ => ∃ s, vs = [.str s] ∧ s.length ≤ 1000000 ∧ ∀ H', Same H H' → Q (.bl (numL (TL.tl s))) H'
theorem ok_is_number_word (T : Txt K mg) : CalX P w K mg base CX0 1 "is_number_word" spNumber := by
  obtain ⟨fd, F⟩ := T.d_is_number_word
  obtain ⟨t1, h1⟩ := T.i_MOST_FIGURES
  obtain ⟨t2, h2⟩ := T.s_FIGURES
  have sc : FnScope ["word", "sign"] ["word"] (defScope (top 37)) := C8.fnScope_by (by decide +kernel)
  refine mk_cal0 ["word", "sign"] ["word"] F T.g_is_number_word sc (fun _ _ _ _ _ _ us hl => match us, hl with | [_], _ => rfl) (fun vs H Q E h => ?_) (fun cdv A outer s H vs Q E hr h => ⟨_,
      pss_cons (ps_if (PW.pt (pw_or (pt_not (pt_chain op_le op_le pe_int (pe_callB call_len rfl T.f_len boot_len (pa_cons (pv 0) pa_nil)) (pe_glob (v := .int 9) rfl h1 ⟨_, rfl⟩)))
          (pw_or1 (pt_not (pt_val (pe_callB (cr_all rfl) rfl T.f_all (by decide +kernel) (pa_cons (pe_lc (own := [("sign", 1)]) (g := gName 1) (tt := tYes) rfl sc.nd (pi_str (pv 0)) (blkOk_by (own := [("sign", 1)]) (N := ["word", "sign"]) (sc := defScope (top 37)) (by decide +kernel))
            (fun _ _ _ _ _ => pg_name (i := 1) sc.nd rfl (Or.inl rfl)) (fun _ _ _ _ _ => pts_nil) (fun _ _ _ _ _ => pe_cmpR op_in_sign (pv 1) (pe_glob (v := .str "0123456789") rfl h2 ⟨_, rfl⟩) rfl)) pa_nil)))))))
        (pss_one (ps_ret pe_bl)) pss_nil)
      (pss_one (ps_ret (pe_or (pe_cmpR op_ne (pe_ix ix_str (pv 0) pe_int (fun _ _ => rfl)) pe_str (nomark _)) (pe_one (pe_cmpR op_eq (pe_callB call_len rfl T.f_len boot_len (pa_cons (pv 0) pa_nil)) pe_int (nomark _)))))), ?_⟩)
  · obtain ⟨s, rfl, _⟩ := h; rfl
  · obtain ⟨s, rfl, hs, q⟩ := h
    have hl := le_line hs
    have hL := len_tl' s
    refine ⟨_, rfl, _, s.length, rfl, ⟨hl, rfl⟩, _, _, rfl, rfl, _, rfl, ?_⟩
    have fin : numL (TL.tl s) = ((decide ((1 : Int) ≤ (s.length : Int)) && decide ((s.length : Int) ≤ 9) && (TL.tl s).all isDig) && (!decide ((TL.tl s).head? = some 48) || decide ((TL.tl s).length = 1))) := by
      unfold numL
      rw [hL]
      have a1 : decide (1 ≤ s.length) = decide ((1 : Int) ≤ (s.length : Int)) := by
        by_cases h : 1 ≤ s.length
        · rw [decide_eq_true h, decide_eq_true (by omega)]
        · rw [decide_eq_false h, decide_eq_false (by omega)]
      have a2 : decide (s.length ≤ 9) = decide ((s.length : Int) ≤ 9) := by
        by_cases h : s.length ≤ 9
        · rw [decide_eq_true h, decide_eq_true (by omega)]
        · rw [decide_eq_false h, decide_eq_false (by omega)]
      rw [a1, a2]
    by_cases c1 : (1 : Int) ≤ (s.length : Int)
    · rw [decide_eq_true c1]
      refine iteT ⟨_, _, rfl, rfl, _, rfl, ?_⟩
      rw [decide_eq_true c1, Bool.true_and] at fin
      by_cases c2 : (s.length : Int) ≤ 9
      · rw [decide_eq_true c2, Bool.true_and] at fin
        rw [decide_eq_true c2]
        refine iteF ⟨_, rfl, s, rfl, fun D hD => lc_dp (K := K) (walk_str (z := s)) ((TL.tl s).map fun c => PyData.bool (isDig c)) (by rw [List.length_map]; rfl) (by show s.length ≤ sizeLine; exact hl) hD (fun _ _ => trivial) yStr_same (fun i x H1 H2 d Qc hd h3 ha hY hQ => ?_) (fun H1 ys h3 hD2 hds => ?_)⟩
        · obtain ⟨rfl, c, hc, rfl⟩ := hY
          refine ⟨rfl, _, rfl, c, _, rfl, rfl, ?_⟩
          rw [dig_in]
          refine hQ _ _ (Same.refl _) ?_
          rw [List.getElem?_map] at hd
          have hc' : (TL.tl s)[i]? = some c := by rw [← hc]; exact Array.getElem?_toList
          rw [hc'] at hd
          cases hd
          exact .bl _
        · have e2 := dpAll_bls (ns := (TL.tl s).map isDig) (by rw [List.map_map]; exact hds)
          subst e2
          have S1 := h3.trans (del_sub _ _)
          refine ⟨D, _, rfl, SqL.of hD2, _, rfl, ?_⟩
          have e3 : ((TL.tl s).map isDig).all id = (TL.tl s).all isDig := by rw [List.all_map]; rfl
          rw [e3]
          cases c3 : (TL.tl s).all isDig with
          | false =>
            rw [c3, Bool.false_and] at fin
            refine iteT ?_
            have := q H1 S1
            rw [fin] at this
            exact this
          | true =>
            rw [c3, Bool.true_and] at fin
            refine iteF ?_
            cases e : TL.tl s with
            | nil =>
              rw [e] at hL
              simp at hL
              omega
            | cons a r =>
              refine ⟨_, rfl, s, 0, a, rfl, rfl, hl, atI_nat (j := 0) (by show (TL.tl s)[0]? = _; rw [e]; rfl), rfl, _, rfl, ?_⟩
              have e4 : (!decide (V.str ⟨#[a]⟩ = V.str "0")) = !decide ((TL.tl s).head? = some 48) := by
                rw [str_eq, e]
                have e5 : TL.tl (("0" : Str)) = [48] := by decide +kernel
                rw [e5]
                have e6 : TL.tl (⟨#[a]⟩ : Str) = [a] := rfl
                rw [e6]
                by_cases h : a = 48
                · subst h; rfl
                · rw [decide_eq_false (fun z => h (List.cons.inj z).1), decide_eq_false (show ¬ List.head? (a :: r) = some 48 from fun z => h (Option.some.inj z))]
              rw [e4]
              have := q H1 S1
              rw [fin] at this
              cases c4 : !decide ((TL.tl s).head? = some 48) with
              | true =>
                rw [c4, Bool.true_or] at this
                exact iteT this
              | false =>
                rw [c4, Bool.false_or] at this
                refine iteF ⟨_, rfl, _, s.length, rfl, ⟨hl, rfl⟩, rfl, ?_⟩
                have e7 : decide (V.int (s.length : Int) = V.int 1) = decide ((TL.tl s).length = 1) := by
                  rw [hL]
                  by_cases h : s.length = 1
                  · rw [decide_eq_true h, h]; exact decide_eq_true rfl
                  · rw [decide_eq_false h]
                    exact decide_eq_false fun z => h (by have := V.int.inj z; omega)
                rw [e7]
                exact this
      · rw [decide_eq_false c2, Bool.false_and, Bool.false_and] at fin
        rw [decide_eq_false c2]
        refine iteT ?_
        have := q H (Same.refl _)
        rw [fin] at this
        exact this
    · rw [decide_eq_false c1, Bool.false_and, Bool.false_and, Bool.false_and] at fin
      rw [decide_eq_false c1]
      refine iteF ⟨_, rfl, iteT ?_⟩
      have := q H (Same.refl _)
      rw [fin] at this
      exact this
def spInteger2 : Sp := fun vs H Q _ => ∃ s, vs = [.str s] ∧ s.length ≤ 1000000 ∧ ∀ H', Same H H' → Q (.bl (wordB s)) H'
theorem ok_is_integer_word (T : Txt K mg) : CalX P w K mg base CX0 2 "is_integer_word" spInteger2 := by
  obtain ⟨fd, F⟩ := T.d_is_integer_word
  have sc : FnScope ["word"] ["word"] (defScope (top 38)) := C8.fnScope_by (by decide +kernel)
  refine mk_cal0 ["word"] ["word"] F T.g_is_integer_word sc (fun _ _ _ _ _ _ us hl => match us, hl with | [_], _ => rfl) (fun vs H Q E h => ?_) (fun cdv A outer s H vs Q E hr h => ⟨_,
      pss_cons (ps_if (pt_cmpR op_eq (pe_slice sl_str (pv 0) po_none (po_some pe_int)) pe_str (nomark _))
        (pss_one (ps_ret (pe_and (pe_0 (ok_is_number_word T) hr (by decide) rfl (pa_cons (pe_slice sl_str (pv 0) (po_some pe_int) po_none) pa_nil))
          (pe_one (pe_cmpR op_ne (pe_slice sl_str (pv 0) (po_some pe_int) po_none) pe_str (nomark _)))))) pss_nil)
      (pss_one (ps_ret (pe_0 (ok_is_number_word T) hr (by decide) rfl (pa_cons (pv 0) pa_nil)))), ?_⟩)
  · obtain ⟨s, rfl, _⟩ := h; rfl
  · obtain ⟨s, rfl, hs, q⟩ := h
    have hl := le_line hs
    refine ⟨_, rfl, _, rfl, s, rfl, hl, rfl, _, rfl, ?_⟩
    have e1 : decide (V.str (cutS s none (some 1)) = V.str "-") = decide ((TL.tl s).take 1 = [45]) := by
      rw [str_eq, tl_head]
      rfl
    rw [e1]
    unfold wordB intL at q
    by_cases c : (TL.tl s).take 1 = [45]
    · rw [if_pos c] at q
      rw [decide_eq_true c]
      refine iteT ⟨_, rfl, _, rfl, s, rfl, hl, cutS s (some 1) none, rfl, Nat.le_trans (cut_len s) hs, fun H1 S1 => ⟨_, rfl, ?_⟩⟩
      rw [tl_rest]
      cases c2 : numL ((TL.tl s).drop 1) with
      | false =>
        rw [c2, Bool.false_and] at q
        exact iteF (q H1 S1)
      | true =>
        rw [c2, Bool.true_and] at q
        refine iteT ⟨_, rfl, _, rfl, s, rfl, hl, rfl, ?_⟩
        have e2 : decide (V.str (cutS s (some 1) none) = V.str "0") = decide ((TL.tl s).drop 1 = [48]) := by
          rw [str_eq, tl_rest]
          rfl
        rw [e2]
        exact q H1 S1
    · rw [if_neg c] at q
      rw [decide_eq_false c]
      exact iteF ⟨_, rfl, s, rfl, hs, q⟩
/-! ### integers_told -/
def spInts (K : PySem.W.Frag) : Sp := fun vs H Q _ => ∃ (a : Addr) (ws : List Str), vs = [.ref a] ∧ SqL K H a (ws.map V.str) ∧ ws.length ≤ 1000000 ∧ (∀ x ∈ ws, x.length ≤ 1000000) ∧
  (ws.all wordB = true → ∀ H' p, Same H H' → H p = none → H' p = some (.lst ((ws.map wordN).map V.int)) → Q (.ref p) H') ∧ (ws.all wordB = false → ∀ H', Same H H' → Q .non H')
theorem ok_integers_told (T : Txt K mg) : CalX P w K mg base CX0 3 "integers_told" (spInts K) := by
  obtain ⟨fd, F⟩ := T.d_integers_told
  have sc : FnScope ["words", "word"] ["words"] (defScope (top 39)) := C8.fnScope_by (by decide +kernel)
  refine mk_cal0 ["words", "word"] ["words"] F T.g_integers_told sc (fun _ _ _ _ _ _ us hl => match us, hl with | [_], _ => rfl) (fun vs H Q E h => ?_) (fun cdv A outer s H vs Q E hr h => ⟨_,
      pss_one (ps_ret (pe_ifExp (pt_val (pe_callB (cr_all rfl) rfl T.f_all (by decide +kernel) (pa_cons (pe_lc (own := [("word", 1)]) (g := gName 1) (tt := tYes) rfl sc.nd (pi_list (pv 0)) (blkOk_by (own := [("word", 1)]) (N := ["words", "word"]) (sc := defScope (top 39)) (by decide +kernel))
            (fun _ _ _ _ _ => pg_name (i := 1) sc.nd rfl (Or.inl rfl)) (fun _ _ _ _ _ => pts_nil) (fun _ _ _ _ _ => pe_0 (ok_is_integer_word T) hr (by decide) rfl (pa_cons (pv 1) pa_nil))) pa_nil)))
          (pe_lc (own := [("word", 1)]) (g := gName 1) (tt := tYes) rfl sc.nd (pi_list (pv 0)) (blkOk_by (own := [("word", 1)]) (N := ["words", "word"]) (sc := defScope (top 39)) (by decide +kernel))
            (fun _ _ _ _ _ => pg_name (i := 1) sc.nd rfl (Or.inl rfl)) (fun _ _ _ _ _ => pts_nil) (fun _ _ _ _ _ => pe_callTy call_int_str rfl T.f_int (by decide +kernel) (pa_cons (pv 1) pa_nil)))
          pe_non)), ?_⟩)
  · obtain ⟨a, ws, rfl, _⟩ := h; rfl
  · obtain ⟨a, ws, rfl, ha, hz, hw, q1, q2⟩ := h
    have getw : ∀ {i : Nat} {x : V}, (ws.map V.str)[i]? = some x → ∃ s, ws[i]? = some s ∧ x = .str s := fun {i x} h => by
      rw [List.getElem?_map] at h
      cases e : ws[i]? with
      | none => rw [e] at h; cases h
      | some s =>
        rw [e] at h
        cases h
        exact ⟨s, rfl, rfl⟩
    refine ⟨_, rfl, a, rfl, ⟨_, ha⟩, fun D hD => lc_dp (K := K) (walk_list (K := K) (a := a) (xs := ws.map V.str)) (ws.map fun s => PyData.bool (wordB s)) (by simp) (le_line (by simpa using hz)) hD (fun H1 h1 => sqL_ext (same_extN (h1.trans (del_sub _ _))) ha) yAt_same (fun i y H1 H2 d Qc hd h1 hacc hY hQ => ?_) (fun H1 ys h1 hD2 hds => ?_)⟩
    · obtain ⟨rfl, hy⟩ := hY
      obtain ⟨s, es, rfl⟩ := getw hy
      rw [List.getElem?_map, es] at hd
      cases hd
      exact ⟨rfl, _, rfl, s, rfl, hw s (List.mem_of_getElem? es), fun H3 h3 => hQ _ _ h3 (.bl _)⟩
    · have e2 := dpAll_bls (ns := ws.map wordB) (by rw [List.map_map]; exact hds)
      subst e2
      have S1 := h1.trans (del_sub _ _)
      refine ⟨D, _, rfl, SqL.of hD2, _, rfl, ?_⟩
      have e3 : (ws.map wordB).all id = ws.all wordB := by rw [List.all_map]; rfl
      rw [e3]
      cases c : ws.all wordB with
      | false => exact iteF (q2 c H1 S1)
      | true =>
        have ha1 : SqL K H1 a (ws.map V.str) := sqL_ext (same_extN S1) ha
        refine iteT ⟨_, rfl, a, rfl, ⟨_, ha1⟩, fun D2 hD2' => lc_dp (K := K) (walk_list (K := K) (a := a) (xs := ws.map V.str)) ((ws.map wordN).map PyData.int) (by simp) (le_line (by simpa using hz)) hD2' (fun H3 h3 => sqL_ext (same_extN (h3.trans (del_sub _ _))) ha1) yAt_same (fun i y H3 H4 d Qc hd h3 hacc hY hQ => ?_) (fun H3 ys h3 hD3 hds3 => ?_)⟩
        · obtain ⟨rfl, hy⟩ := hY
          obtain ⟨s, es, rfl⟩ := getw hy
          rw [List.getElem?_map, List.getElem?_map, es] at hd
          cases hd
          have hb := List.all_eq_true.mp c s (List.mem_of_getElem? es)
          obtain ⟨k1, k2⟩ := word_int hb
          exact ⟨rfl, _, rfl, s, _, rfl, k1, by omega, hQ _ _ (Same.refl _) (.int _)⟩
        · cases dpAll_ints hds3
          exact q1 c H3 D2 (S1.trans (h3.trans (del_sub _ _))) (S1.free hD2') hD3
end
end K45

namespace K45
open PySem PySem.Spec PyProof.Rows L2
def encB (r : Row) : PyData := .list (r.2.map .int)
/-- a def that tells a line: None, or a new thing -/
def spTold (K : PySem.W.Frag) (f : Str → Option Row) (enc : Row → PyData) : Sp := fun vs H Q _ => ∃ line, vs = [.str line] ∧ line.length ≤ 900000 ∧ (f line = none → ∀ H', Same H H' → Q .non H') ∧
  (∀ r, f line = some r → ∀ H' b, Same H H' → Dp K H' (.ref b) (enc r) → (∀ a o, H a = some o → Dp K (del H' a) (.ref b) (enc r)) → Q (.ref b) H')
theorem head_words {line : Str} : ∃ w0 ws, wordsOf line = w0 :: ws ∧ (∀ x ∈ w0 :: ws, x.length ≤ line.length) ∧ (w0 :: ws).length ≤ line.length + 1 := by
  have h := words_tot line
  cases e : wordsOf line with
  | nil => exact absurd e (words_ne line)
  | cons w0 ws =>
    rw [e] at h
    refine ⟨w0, ws, rfl, fun x hx => ?_, ?_⟩
    · have := tot_mem hx
      omega
    · have := tot_len (w0 :: ws)
      omega
theorem rowOf_eq {wl : List Str} {many : Option Nat} {line w0 : Str} {ws : List Str} (e : wordsOf line = w0 :: ws) :
    rowOf wl many line = if (decide (w0 ∈ wl) && (ws.all wordB && (decide (0 < ws.length) && manyOk many ws.length))) = true then some (w0, ws.map wordN) else none := by
  unfold rowOf rowOk
  rw [e]
  rfl
section
variable {P : Program} {w : World} {K : PySem.W.Frag} {mg : Str → Option Value} {base : Heap}
theorem ok_box_told (T : Txt K mg) : CalX P w K mg base CX0 4 "box_told" (spTold K rowBox encB) := by
  obtain ⟨fd, F⟩ := T.d_box_told
  obtain ⟨t1, h1⟩ := T.s_BOX
  have sc : FnScope ["line", "words"] ["line"] (defScope (top 41)) := C8.fnScope_by (by decide +kernel)
  refine mk_cal0 ["line", "words"] ["line"] F T.g_box_told sc (fun _ _ _ _ _ _ us hl => match us, hl with | [_], _ => rfl) (fun vs H Q E h => ?_) (fun cdv A outer s H vs Q E hr h => ⟨_,
      pss_cons (ps_set (i := 1) sc.nd rfl (Or.inl rfl) (pe_split (pv 0) pe_str))
      (pss_one (ps_ret (pe_ifExp (PW.pt (pw_and (pt_cmpR op_eq (pe_ix ix_list (pv 1) pe_int (fun _ _ => rfl)) (pe_glob (v := .str "box") rfl h1 ⟨_, rfl⟩) (nomark _)) (pw_and1 (pt_cmpR op_eq (pe_callB call_len rfl T.f_len boot_len (pa_cons (pv 1) pa_nil)) pe_int (nomark _)))))
        (pe_0 (ok_integers_told T) hr (by decide) rfl (pa_cons (pe_slice sl_list (pv 1) (po_some pe_int) po_none) pa_nil)) pe_non))), ?_⟩)
  · obtain ⟨s, rfl, _⟩ := h; rfl
  · obtain ⟨line, rfl, hl, q1, q2⟩ := h
    obtain ⟨w0, ws, e, hw, hn⟩ := head_words (line := line)
    have er := rowOf_eq (wl := [sBox]) (many := some 4) e
    refine ⟨_, rfl, ⟨_, rfl⟩, line, " ", rfl, rfl, rfl, by rw [sizeLine_eq]; omega, fun p hp => ?_⟩
    have e' : Txt.split line " " = w0 :: ws := e
    rw [e']
    have hL : SqL K (upd H p (.lst ((w0 :: ws).map V.str))) p ((w0 :: ws).map V.str) := SqL.of upd_same
    have S1 : Same H (upd H p (.lst ((w0 :: ws).map V.str))) := same_upd hp
    refine ⟨_, rfl, p, _, 0, .str w0, rfl, rfl, hL, atI_nat (j := 0) rfl, rfl, _, rfl, ?_⟩
    have e1 : decide (V.str w0 = V.str "box") = decide (w0 ∈ [sBox]) := by
      by_cases c : w0 = sBox
      · subst c; decide +kernel
      · rw [decide_eq_false (show ¬ w0 ∈ [sBox] from fun z => c (List.mem_singleton.mp z))]
        exact decide_eq_false fun z => c (V.str.inj z)
    rw [e1]
    cases c1 : decide (w0 ∈ [sBox]) with
    | false =>
      refine iteF (iteF (q1 ?_ _ S1))
      show rowOf [sBox] (some 4) line = none
      rw [er, c1]
      rfl
    | true =>
      refine iteT ⟨_, rfl, _, _, rfl, .inl ⟨_, hL, rfl⟩, rfl, _, rfl, ?_⟩
      have e2 : decide (V.int (((w0 :: ws).map V.str).length : Int) = V.int 5) = decide (ws.length = 4) := by
        rw [List.length_map, List.length_cons]
        by_cases c : ws.length = 4
        · rw [decide_eq_true c, c]; exact decide_eq_true rfl
        · rw [decide_eq_false c]
          exact decide_eq_false fun z => c (by have := V.int.inj z; omega)
      rw [e2]
      cases c2 : decide (ws.length = 4) with
      | false =>
        refine iteF (q1 ?_ _ S1)
        show rowOf [sBox] (some 4) line = none
        rw [er]
        unfold manyOk
        simp only [c2, Bool.and_false]
        rfl
      | true =>
        have h4 : ws.length = 4 := of_decide_eq_true c2
        have rest : (decide (w0 ∈ [sBox]) && (ws.all wordB && (decide (0 < ws.length) && manyOk (some 4) ws.length))) = ws.all wordB := by
          unfold manyOk
          rw [c1, Bool.true_and]
          simp only [c2, Bool.and_true]
          rw [decide_eq_true (by omega), Bool.and_true]
        rw [rest] at er
        refine iteT ⟨_, rfl, _, rfl, p, _, rfl, hL, fun p2 hp2 => ?_⟩
        rw [cutV_tail]
        have S2 := S1.trans (same_upd (o := .lst ((w0 :: ws).map V.str).tail) hp2)
        refine ⟨p2, ws, rfl, SqL.of upd_same, by omega, fun x hx => ?_, fun hall H3 p3 S3 hp3 hH3 => ?_, fun hall H3 S3 => ?_⟩
        · have := hw x (List.mem_cons_of_mem _ hx)
          omega
        · rw [hall, if_pos rfl] at er
          refine q2 _ er H3 p3 (S2.trans S3) (.lst (SqL.of hH3) (ints_dpAll _)) fun a o ha => ?_
          have hpa : p3 ≠ a := Ne.symm (ne_of_none (S2 _ _ ha) hp3)
          exact .lst (SqL.of (by rw [del_ne hpa]; exact hH3)) (ints_dpAll _)
        · rw [hall, if_neg Bool.false_ne_true] at er
          exact q1 er H3 (S2.trans S3)
theorem ok_stroke_told (T : Txt K mg) : CalX P w K mg base CX0 4 "stroke_told" (spTold K rowStroke encR) := by
  obtain ⟨fd, F⟩ := T.d_stroke_told
  obtain ⟨t1, h1⟩ := T.s_LEVEL
  obtain ⟨t2, h2⟩ := T.s_UPRIGHT
  have sc : FnScope ["line", "words", "goals"] ["line"] (defScope (top 42)) := C8.fnScope_by (by decide +kernel)
  refine mk_cal0 ["line", "words", "goals"] ["line"] F T.g_stroke_told sc (fun _ _ _ _ _ _ us hl => match us, hl with | [_], _ => rfl) (fun vs H Q E h => ?_) (fun cdv A outer s H vs Q E hr h => ⟨_,
      pss_cons (ps_set (i := 1) sc.nd rfl (Or.inl rfl) (pe_split (pv 0) pe_str))
      (pss_cons (ps_set (i := 2) sc.nd rfl (Or.inl rfl) (pe_0 (ok_integers_told T) hr (by decide) rfl (pa_cons (pe_slice sl_list (pv 1) (po_some pe_int) po_none) pa_nil)))
      (pss_cons (ps_if (PW.pt (pw_or (pt_cmpR op_notIn_seq (pe_ix ix_list (pv 1) pe_int (fun _ _ => rfl)) (pe_tup (pa_cons (pe_glob (v := .str "level") rfl h1 ⟨_, rfl⟩) (pa_cons (pe_glob (v := .str "upright") rfl h2 ⟨_, rfl⟩) pa_nil))) rfl)
          (pw_or (pt_cmpR op_eq (pe_callB call_len rfl T.f_len boot_len (pa_cons (pv 1) pa_nil)) pe_int (nomark _)) (pw_or1 (pt_cmpR op_isN (pv 2) pe_non (nomark _))))))
        (pss_one (ps_ret pe_non)) pss_nil)
      (pss_one (ps_ret (pe_tup (pa_cons (pe_ix ix_list (pv 1) pe_int (fun _ _ => rfl)) (pa_cons (pe_callTy call_tuple_of rfl T.f_tuple (by decide +kernel) (pa_cons (pv 2) pa_nil)) pa_nil))))))), ?_⟩)
  · obtain ⟨s, rfl, _⟩ := h; rfl
  · obtain ⟨line, rfl, hl, q1, q2⟩ := h
    obtain ⟨w0, ws, e, hw, hn⟩ := head_words (line := line)
    have er := rowOf_eq (wl := [sLv, sUp]) (many := none) e
    refine ⟨_, rfl, ⟨_, rfl⟩, line, " ", rfl, rfl, rfl, by rw [sizeLine_eq]; omega, fun p hp => ?_⟩
    have e' : Txt.split line " " = w0 :: ws := e
    rw [e']
    have hL : SqL K (upd H p (.lst ((w0 :: ws).map V.str))) p ((w0 :: ws).map V.str) := SqL.of upd_same
    have S1 : Same H (upd H p (.lst ((w0 :: ws).map V.str))) := same_upd hp
    refine ⟨_, rfl, _, rfl, p, _, rfl, hL, fun p2 hp2 => ?_⟩
    rw [cutV_tail]
    have S2 := S1.trans (same_upd (o := .lst ((w0 :: ws).map V.str).tail) hp2)
    have hL2 : SqL K (upd (upd H p (.lst ((w0 :: ws).map V.str))) p2 (.lst ((w0 :: ws).map V.str).tail)) p ((w0 :: ws).map V.str) := sqL_ext (same_extN (same_upd hp2)) hL
    have hws : ws.length ≤ 1000000 := by
      simp only [List.length_cons] at hn
      omega
    have e1 : inV (.str w0) [V.str "level", V.str "upright"] = decide (w0 ∈ [sLv, sUp]) := by
      by_cases c : w0 = sLv
      · subst c; decide +kernel
      · by_cases c2 : w0 = sUp
        · subst c2; decide +kernel
        · have : ¬ w0 ∈ [sLv, sUp] := fun z => by
            rcases List.mem_cons.mp z with z | z
            · exact c z
            · exact c2 (List.mem_singleton.mp z)
          rw [decide_eq_false this]
          have n1 : (("level" : Str) == w0) = false := beq_eq_false_iff_ne.mpr fun z => c z.symm
          have n2 : (("upright" : Str) == w0) = false := beq_eq_false_iff_ne.mpr fun z => c2 z.symm
          show (("level" : Str) == w0 || ((("upright" : Str) == w0) || false)) = false
          rw [n1, n2]; rfl
    -- behind goals: gv is None or the list
    have go : ∀ (gv : V) (H3 : Hp), Same (upd (upd H p (.lst ((w0 :: ws).map V.str))) p2 (.lst ((w0 :: ws).map V.str).tail)) H3 →
        ((ws.all wordB = true ∧ ∃ p3, gv = .ref p3 ∧ H3 p3 = some (.lst ((ws.map wordN).map V.int))) ∨ (ws.all wordB = false ∧ gv = .non)) →
        (tSeq (tIfS (tOr (tTest (tOp (rIn K true) (tOp (rIxL K) (tVar 1) (tC (.int 0))) (tTup (tCons (tC (.str "level")) (tCons (tC (.str "upright")) tNil))))) (tOr (tTest (tOp rEq (tCB (fun xs H Q => ∃ x n, xs = [x] ∧ LenV K x H n ∧ Q (.int n) H) (tCons (tVar 1) tNil)) (tC (.int 1))))
          (tTest (tOp (fun x y H Q => y = .non ∧ Q (.bl (decide (x = .non))) H) (tVar 2) (tC .non))))) (tRet (tC .non)) tNext)
          (tRet (tTup (tCons (tOp (rIxL K) (tVar 1) (tC (.int 0))) (tCons (tCB (fun xs H Q => ∃ p ys, xs = [.ref p] ∧ ((SqL K H p ys ∧ ∀ l, H l = none → Q (.ref l) (upd H l (.tup ys))) ∨ (SqT K H p ys ∧ Q (.ref p) H))) (tCons (tVar 2) tNil)) tNil)))))
          { nx := fun _ H' => Q .non H', rt := Q } [some (.str line), some (.ref p), some gv] H3 := by
      intro gv H3 S3 hgv
      have hL3 := sqL_ext (same_extN S3) hL2
      have S23 := S2.trans S3
      refine ⟨_, rfl, p, _, 0, .str w0, rfl, rfl, hL3, atI_nat (j := 0) rfl, (by show 2 ≤ sizeLine; decide), fun t ht => ?_⟩
      have S4 := same_upd (o := .tup [V.str "level", V.str "upright"]) ht
      refine ⟨t, _, rfl, .inr (SqT.of upd_same), rfl, rfl, _, rfl, ?_⟩
      rw [if_pos rfl, e1]
      cases c1 : decide (w0 ∈ [sLv, sUp]) with
      | false =>
        refine iteT (iteT (q1 ?_ _ (S23.trans S4)))
        show rowOf [sLv, sUp] none line = none
        rw [er, c1]
        rfl
      | true =>
        have hL4 := sqL_ext (same_extN S4) hL3
        refine iteF ⟨_, rfl, _, _, rfl, .inl ⟨_, hL4, rfl⟩, rfl, _, rfl, ?_⟩
        have e2 : decide (V.int (((w0 :: ws).map V.str).length : Int) = V.int 1) = decide (ws.length = 0) := by
          rw [List.length_map, List.length_cons]
          by_cases c : ws.length = 0
          · rw [decide_eq_true c, c]; exact decide_eq_true rfl
          · rw [decide_eq_false c]
            exact decide_eq_false fun z => c (by have := V.int.inj z; omega)
        rw [e2]
        cases c2 : decide (ws.length = 0) with
        | true =>
          refine iteT (iteT (q1 ?_ _ (S23.trans S4)))
          show rowOf [sLv, sUp] none line = none
          rw [er]
          have : ws.length = 0 := of_decide_eq_true c2
          rw [show decide (0 < ws.length) = false from decide_eq_false (by omega)]
          simp
        | false =>
          have h0 : ¬ ws.length = 0 := of_decide_eq_false c2
          have rest : (decide (w0 ∈ [sLv, sUp]) && (ws.all wordB && (decide (0 < ws.length) && manyOk none ws.length))) = ws.all wordB := by
            unfold manyOk
            rw [c1, Bool.true_and, decide_eq_true (show 0 < ws.length by omega)]
            simp
          rw [rest] at er
          refine iteF ⟨_, rfl, rfl, _, rfl, ?_⟩
          rcases hgv with ⟨hall, p3, rfl, hH3⟩ | ⟨hall, rfl⟩
          · rw [hall, if_pos rfl] at er
            refine iteF ?_
            have hH4 := S4 _ _ hH3
            refine ⟨_, rfl, p, _, 0, .str w0, rfl, rfl, hL4, atI_nat (j := 0) rfl, _, rfl, p3, _, rfl, .inl ⟨SqL.of hH4, fun l hl2 => ⟨(by show 2 ≤ sizeLine; decide), fun z hz => ?_⟩⟩⟩
            have S5 := same_upd (o := .tup ((ws.map wordN).map V.int)) hl2
            have S6 := same_upd (o := .tup [V.str w0, .ref l]) hz
            refine q2 _ er _ z ((S23.trans S4).trans (S5.trans S6)) ?_ fun a o ha => ?_
            · exact .tup (SqT.of upd_same) (.cons (.str _) (.cons (.tup (SqT.of (S6 _ _ upd_same)) (ints_dpAll _)) .nil))
            · have hza : z ≠ a := Ne.symm (ne_of_none (S5 _ _ (S4 _ _ (S23 _ _ ha))) hz)
              have hla : l ≠ a := Ne.symm (ne_of_none (S4 _ _ (S23 _ _ ha)) hl2)
              exact .tup (SqT.of (by rw [del_ne hza]; exact upd_same)) (.cons (.str _) (.cons (.tup (SqT.of (by rw [del_ne hla]; exact S6 _ _ upd_same)) (ints_dpAll _)) .nil))
          · rw [hall, if_neg Bool.false_ne_true] at er
            exact iteT (q1 er _ (S23.trans S4))
    refine ⟨p2, ws, rfl, SqL.of upd_same, hws, fun x hx => ?_, fun hall H3 p3 S3 hp3 hH3 => go _ H3 S3 (.inl ⟨hall, p3, rfl, hH3⟩), fun hall H3 S3 => go _ H3 S3 (.inr ⟨hall, rfl⟩)⟩
    have := hw x (List.mem_cons_of_mem _ hx)
    omega
/-! ### lines_told -/
def spLines (K : PySem.W.Frag) (g : Addr) (f : Str → Option Row) (enc : Row → PyData) : Sp := fun vs H Q E => ∃ tv, vs = [tv, .ref g] ∧ ((NotStr K H tv ∧ XOut E (cBT K) "line" 0 H) ∨ ∃ text : Str, tv = .str text ∧ text.length ≤ 900000 ∧
  (∀ n : Nat, reads f (linesOf text) = .inl n → XOut E (cBT K) "line" n H) ∧
  (∀ rows, reads f (linesOf text) = .inr rows → ∀ H' p ys, Same H H' → H p = none → H' p = some (.lst ys) → DpAll K (del H' p) ys (rows.map enc) → Q (.ref p) H'))
theorem ok_lines_told {g : Addr} {fdg : FuncData} {psg : List Str} {f : Str → Option Row} {enc : Row → PyData} (T : Txt K mg) (G : FnOk P w K mg base CX0 4 g fdg psg (spTold K f enc)) (kp : PySem.W.keepIn K (.ref g) = true) (b : Binds K fdg psg []) :
    CalX P w K mg base (L2.CX P w) 5 "lines_told" (spLines K g f enc) := by
  obtain ⟨fd, F⟩ := T.d_lines_told
  obtain ⟨ft, FT, BT⟩ := ok_bt_init (P := P) (w := w) (base := base) T
  have M := T.mo.bt
  have sc : FnScope ["text", "told", "lines", "found", "number", "line", "item"] ["text", "told"] (defScope (top 40)) := C8.fnScope_by (by decide +kernel)
  refine mk_cal ["text", "told", "lines", "found", "number", "line", "item"] ["text", "told"] F T.g_lines_told sc (fun _ _ _ _ _ _ us hl => match us, hl with | [_, _], _ => rfl) (fun vs H Q E h => ?_) (fun cdv A outer s H vs Q E hr h => ⟨_,
      pss_cons (ps_if (pt_not (pt_val (pe_callB call_isi rfl T.f_isinstance (by decide +kernel) (pa_cons (pv 0) (pa_cons (pe_bltn (v := .ty "str") rfl T.f_str (by decide +kernel) rfl) pa_nil)))))
        (pss_one (ps_raise rfl (takes_of rfl rfl rfl rfl) (pmk_oex M.o M.iC M.tI FT (hr.mono (by decide)) BT .nil pass0 rfl T.g_BadText (pa_cons pe_int pa_nil)))) pss_nil)
      (pss_cons (ps_set (i := 2) sc.nd rfl (Or.inl rfl) (pe_split (pv 0) pe_str))
      (pss_cons (ps_set (i := 3) sc.nd rfl (Or.inl rfl) (pe_lst pa_nil))
      (pss_cons (ps_for (passes_of rfl) rfl (pi_enumL rfl T.f_enumerate (pa_cons (pe_slice sl_list (pv 2) po_none (po_some (pe_un un_neg pe_int))) (pa_cons pe_int pa_nil)))
          (pg_tup rfl (pgs_cons (pg_name (i := 4) sc.nd rfl (Or.inl rfl)) (pgs_cons (pg_name (i := 5) sc.nd rfl (Or.inl rfl)) pgs_nil)))
        (pss_cons (ps_set (i := 6) sc.nd rfl (Or.inl rfl) (pe_callL (i := 1) G hr rfl (Or.inl rfl) kp b .nil pass0 (pa_cons (pv 5) pa_nil)))
        (pss_cons (ps_if (pt_cmpR op_isN (pv 6) pe_non (nomark _)) (pss_one (ps_raise rfl (takes_of rfl rfl rfl rfl) (pmk_oex M.o M.iC M.tI FT (hr.mono (by decide)) BT .nil pass0 rfl T.g_BadText (pa_cons (pv 4) pa_nil)))) pss_nil)
        (pss_one (ps_expr (pe_bm PySem.F.plainAttrs_list PySem.F.slot_list_append PySem.F.type_list_append mt_append (pv 3) (pa_cons (pv 6) pa_nil)))))))
      (pss_cons (ps_if (pt_cmpR op_ne (pe_ix ix_list (pv 2) (pe_un un_neg pe_int) (fun _ _ => rfl)) pe_str (nomark _))
        (pss_one (ps_raise rfl (takes_of rfl rfl rfl rfl) (pmk_oex M.o M.iC M.tI FT (hr.mono (by decide)) BT .nil pass0 rfl T.g_BadText (pa_cons (pe_callB call_len rfl T.f_len boot_len (pa_cons (pv 2) pa_nil)) pa_nil)))) pss_nil)
      (pss_one (ps_ret (pv 3))))))), ?_⟩)
  · obtain ⟨tv, rfl, _⟩ := h; rfl
  · obtain ⟨tv, rfl, h⟩ := h
    rcases h with ⟨⟨t, ht, hk⟩, qe⟩ | ⟨text, rfl, hl, qe, q⟩
    · refine ⟨_, rfl, _, _, _, _, false, rfl, .ty _, ht, hk, false, rfl, iteT ?_⟩
      exact mko_ok qe
    · refine ⟨_, rfl, _, _, _, _, true, rfl, .ty _, .base (.str text), kit_ty (by decide +kernel), true, rfl, iteF ?_⟩
      refine ⟨_, rfl, ⟨_, rfl⟩, text, "\n", rfl, rfl, rfl, by rw [sizeLine_eq]; omega, fun pl hpl => ?_⟩
      have eL : Txt.split text "\n" = linesOf text := rfl
      rw [eL]
      refine ⟨Nat.zero_le _, fun pf hpf => ?_⟩
      have hlf : pl ≠ pf := ne_of_none upd_same hpf
      have hpf0 : H pf = none := by rw [upd_ne (Ne.symm hlf)] at hpf; exact hpf
      have SL := same_upd (o := .lst ((linesOf text).map V.str)) hpl
      refine ⟨_, rfl, _, rfl, _, rfl, pl, (linesOf text).map V.str, rfl, SqL.of (same_upd hpf _ _ upd_same), fun sp hsp => ?_⟩
      rw [cutV_butlast, ← List.map_dropLast]
      have S0 := SL.trans ((same_upd (o := .lst []) hpf).trans (same_upd (o := .lst ((linesOf text).dropLast.map V.str)) hsp))
      have hsf : pf ≠ sp := ne_of_none upd_same hsp
      have tl1 := lines_tot text
      have nl1 : (linesOf text).length ≤ text.length + 1 := by have := tot_len (linesOf text); omega
      refine ⟨sp, (linesOf text).dropLast.map V.str, 1, rfl, by decide, by decide, SqL.of upd_same, for_it (walk_enumL (K := K) (a := sp) (xs := (linesOf text).dropLast.map V.str) (k0 := 1))
        (fun i σ H' => ∃ o4 o5 o6, σ = [some (.str text), some (.ref g), some (.ref pl), some (.ref pf), o4, o5, o6] ∧
          Same (del (upd (upd (upd H pl (.lst ((linesOf text).map V.str))) pf (.lst [])) sp (.lst ((linesOf text).dropLast.map V.str))) pf) (del H' pf) ∧
          (∀ j l', j < i → (linesOf text).dropLast[j]? = some l' → f l' ≠ none) ∧ ∃ ys, H' pf = some (.lst ys) ∧ DpAll K (del H' pf) ys ((((linesOf text).dropLast.take i).filterMap f).map enc)) ?_ ?_ ?_ ?_⟩
      · exact ⟨none, none, none, rfl, Same.refl _, fun j l' hj => absurd hj (by omega), [], by rw [upd_ne hsf, upd_same], .nil⟩
      · rintro i σ H1 hi ⟨o4, o5, o6, rfl, S1, hok, ys, hys, hds⟩
        exact SqL.of (del_sub _ _ _ _ (S1 _ _ (by rw [del_ne (Ne.symm hsf)]; exact upd_same)))
      · rintro i y σ H1 H2 hi ⟨o4, o5, o6, rfl, S1, hok, ys, hys, hds⟩ ⟨t1, a1, b1, rfl, ht, rfl, e1, e2⟩
        have hi' : i < (linesOf text).dropLast.length := by simpa using hi
        have el : (linesOf text).dropLast[i]? = some ((linesOf text).dropLast[i]) := List.getElem?_eq_getElem hi'
        have e2' : ((linesOf text).dropLast.map V.str)[i]? = some b1 := e2
        rw [List.getElem?_map, el] at e2'
        cases e2'
        cases e1
        generalize (linesOf text).dropLast[i] = line at *
        have hline : line.length ≤ 900000 := by
          have := tot_mem ((List.dropLast_sublist (linesOf text)).mem (List.mem_of_getElem? el))
          omega
        have hft : pf ≠ t1 := ne_of_none hys ht
        have S2 : Same H1 (upd H1 t1 (.tup [.int (1 + (i : Int)), .str line])) := same_upd ht
        have SH : ∀ {Hx}, Same H1 Hx → Same (del (upd (upd (upd H pl (.lst ((linesOf text).map V.str))) pf (.lst [])) sp (.lst ((linesOf text).dropLast.map V.str))) pf) (del Hx pf) := fun hx => S1.trans (same_del pf hx)
        have S00 : ∀ {Hx}, Same H1 Hx → Same H Hx := fun hx => (same_to_del S0 hpf0).trans ((SH hx).trans (del_sub _ _))
        refine ⟨t1, _, rfl, SqT.of upd_same, rfl, _, _, rfl, _, _, rfl, rfl, ?_⟩
        refine ⟨rfl, _, rfl, line, rfl, hline, fun hn H3 S3 => ?_, fun r hr2 H3 v S3 hv hfree => ?_⟩
        · refine ⟨_, rfl, rfl, _, rfl, iteT ⟨_, rfl, mko_ok ?_⟩⟩
          have e0 : (1 : Int) + (i : Int) = ((i + 1 : Nat) : Int) := by omega
          rw [e0]
          exact (qe (i + 1) (reads_bad el hn hok)).mono (S00 (S2.trans S3))
        · have hys3 := S3 _ _ (S2 _ _ hys)
          refine ⟨_, rfl, rfl, _, rfl, iteF ?_⟩
          have hlen : ys.length < sizeLine := by
            rw [dpAll_len hds, List.length_map]
            have h1 : (((linesOf text).dropLast.take i).filterMap f).length ≤ ((linesOf text).dropLast.take i).length := List.length_filterMap_le _ _
            have h2 : ((linesOf text).dropLast.take i).length ≤ i := by rw [List.length_take]; omega
            have h3 : (linesOf text).dropLast.length ≤ (linesOf text).length := by rw [List.length_dropLast]; omega
            rw [sizeLine_eq]
            omega
          refine ⟨_, rfl, .inl ⟨rfl, _, .inl (.inl hys3)⟩, _, rfl, pf, ys, _, rfl, rfl, hys3, hlen, ?_⟩
          refine ⟨_, _, _, rfl, ?_, fun j l' hj hs => ?_, _, upd_same, ?_⟩
          · rw [del_upd]
            exact SH (S2.trans S3)
          · by_cases e : j = i
            · subst e
              rw [el] at hs
              cases hs
              rw [hr2]
              exact fun z => by cases z
            · exact hok j l' (by omega) hs
          · rw [del_upd, filter_next el hr2, List.map_append]
            exact dpAll_app (dpAll_ext (same_del pf (S2.trans S3)) hds) (.cons (hfree pf _ (S2 _ _ hys)) .nil)
      · rintro σ H1 ⟨o4, o5, o6, rfl, S1, hok, ys, hys, hds⟩
        rw [List.length_map] at hok hds
        have S00 : Same H H1 := (same_to_del S0 hpf0).trans (S1.trans (del_sub _ _))
        have hl1 : H1 pl = some (.lst ((linesOf text).map V.str)) := del_sub _ _ _ _ (S1 _ _ (by
          rw [del_ne hlf]
          exact same_upd hsp _ _ (same_upd hpf _ _ upd_same)))
        obtain ⟨last, hlast⟩ : ∃ last, (linesOf text).getLast? = some last := by
          cases e : (linesOf text).getLast? with
          | none => exact absurd (List.getLast?_eq_none_iff.mp e) (lines_ne text)
          | some l => exact ⟨l, rfl⟩
        refine ⟨_, rfl, _, rfl, pl, _, -1, .str last, rfl, rfl, SqL.of hl1, atI_end (by rw [List.getLast?_map, hlast]; rfl), rfl, _, rfl, ?_⟩
        by_cases c : last = Str.empty
        · have e1 : (!decide (V.str last = V.str "")) = false := by
            rw [c]
            have : decide (V.str Str.empty = V.str "") = true := by decide +kernel
            rw [this]; rfl
          rw [e1]
          refine iteF ⟨_, rfl, q _ (reads_ok hok (by rw [hlast, c])) H1 pf ys S00 hpf0 hys ?_⟩
          rw [List.take_of_length_le (Nat.le_refl _)] at hds
          exact hds
        · have e1 : (!decide (V.str last = V.str "")) = true := by
            have : ¬ V.str last = V.str "" := fun z => c (by
              have e2 : (("" : Str)) = Str.empty := by decide +kernel
              rw [← e2]
              exact V.str.inj z)
            rw [decide_eq_false this]; rfl
          rw [e1]
          refine iteT ⟨_, rfl, _, _, rfl, .inl ⟨_, SqL.of hl1, rfl⟩, mko_ok ?_⟩
          rw [List.length_map]
          exact (qe _ (reads_last hok (by rw [hlast]; exact fun z => c (Option.some.inj z)))).mono S00
end
end K45

namespace K45
open PySem PySem.Spec PyProof.Rows L2
theorem reads_inr {f : Str → Option Row} {ls : List Str} {rows : List Row} (h : reads f ls = .inr rows) : rows = ls.dropLast.filterMap f := by
  unfold reads at h
  split at h
  · cases h
  · split at h
    · exact (Sum.inr.inj h).symm
    · cases h
theorem rows_len {f : Str → Option Row} {text : Str} {rows : List Row} (h : reads f (linesOf text) = .inr rows) (hl : text.length ≤ 900000) : rows.length ≤ 1000000 := by
  rw [reads_inr h]
  have h1 : ((linesOf text).dropLast.filterMap f).length ≤ (linesOf text).dropLast.length := List.length_filterMap_le _ _
  rw [List.length_dropLast] at h1
  have h2 := tot_len (linesOf text)
  have h3 := lines_tot text
  omega
theorem rows_from {f : Str → Option Row} {text : Str} {rows : List Row} (h : reads f (linesOf text) = .inr rows) {r : Row} (hr : r ∈ rows) : ∃ line ∈ linesOf text, f line = some r := by
  rw [reads_inr h] at hr
  obtain ⟨l, hl, e⟩ := List.mem_filterMap.mp hr
  exact ⟨l, (List.dropLast_sublist _).mem hl, e⟩
theorem rows_box {text : Str} {rows : List Row} (h : reads rowBox (linesOf text) = .inr rows) {r : Row} (hr : r ∈ rows) : r.2.length = 4 := by
  obtain ⟨l, _, e⟩ := rows_from h hr
  unfold rowBox rowOf at e
  split at e
  · rename_i c
    cases e
    unfold rowOk manyOk at c
    simp only [Bool.and_eq_true, decide_eq_true_eq] at c
    rw [List.length_map]
    exact c.2.2.2
  · cases e
theorem rows_stroke {text : Str} {rows : List Row} (h : reads rowStroke (linesOf text) = .inr rows) (hl : text.length ≤ 900000) {r : Row} (hr : r ∈ rows) : strokeRow r := by
  obtain ⟨l, hm, e⟩ := rows_from h hr
  unfold rowStroke rowOf at e
  split at e
  · rename_i c
    cases e
    unfold rowOk manyOk at c
    simp only [Bool.and_eq_true, decide_eq_true_eq] at c
    refine ⟨?_, ?_⟩
    · rcases List.mem_cons.mp c.1 with z | z
      · exact .inl z
      · exact .inr (List.mem_singleton.mp z)
    · show ((wordsOf l).tail.map wordN).length ≤ 1000000
      rw [List.length_map, List.length_tail]
      have h1 := words_tot l
      have h2 := tot_len (wordsOf l)
      have h3 := tot_mem hm
      have h4 := lines_tot text
      omega
  · cases e
theorem four {l : List Int} (h : l.length = 4) : ∃ a b c d, l = [a, b, c, d] := by
  match l, h with
  | [a, b, c, d], _ => exact ⟨a, b, c, d, rfl⟩
theorem bad_len40 {ss : List II} (h : badPart ss = none) : ss.length ≤ 40 := by
  by_cases c : 1 ≤ ss.length ∧ ss.length ≤ 40
  · exact c.2
  · rw [bad_len c] at h; cases h
/-- what reading a picture gives -/
def PicVal (K : PySem.W.Frag) (H : Hp) (v : V) (ss ps : List II) : Prop := ∃ t x pa, v = .ref t ∧ SqT K H t [.ref x, .ref pa] ∧ BoxAt K H x ss ∧ Dp K H (.ref pa) (encPs ps)
def PicE (K : PySem.W.Frag) (E : XK) (H : Hp) (Q : VK) : PicOut → Prop
  | .line n => XOut E (cBT K) "line" n H
  | .boxes p => XOut E (cBB K) "part" p H
  | .picture => ∀ H', Same H H' → E (.ref (cNP K)) none H'
  | .ok ss ps => ∀ H' v, Same H H' → PicVal K H' v ss ps → Q v H'
def ScrE (K : PySem.W.Frag) (E : XK) (H : Hp) (Q : VK) : ScrOut → Prop
  | .line n => XOut E (cBT K) "line" n H
  | .script => ∀ H', Same H H' → E (.ref (cNS K)) none H'
  | .ok rows => ∀ H' v, Same H H' → Dp K H' v (.tuple (rows.map encR)) → Q v H'
section
variable {P : Program} {w : World} {K : PySem.W.Frag} {mg : Str → Option Value} {base : Heap}
def spReadP (K : PySem.W.Frag) : Sp := fun vs H Q E => ∃ tv, vs = [tv] ∧ ((NotStr K H tv ∧ XOut E (cBT K) "line" 0 H) ∨ ∃ text : Str, tv = .str text ∧ text.length ≤ 900000 ∧ PicE K E H Q (picOut text))
theorem ok_read_picture (T : Txt K mg) : CalX P w K mg base (L2.CX P w) 7 "read_picture" (spReadP K) := by
  obtain ⟨fd, F⟩ := T.d_read_picture
  obtain ⟨fb, FB, BB⟩ := ok_boxes_init (P := P) (w := w) (base := base) T
  obtain ⟨g, fg, pg, G, mG, kG, bG⟩ := (ok_box_told (P := P) (w := w) (base := base) T).ex
  have eg : g = He.ga K "box_told" := by
    have := mG.symm.trans T.g_box_told
    cases this
    rfl
  subst eg
  have sc : FnScope ["text", "rows", "boxes", "picture", "width", "height", "x", "y"] ["text"] (defScope (top 43)) := C8.fnScope_by (by decide +kernel)
  refine mk_cal ["text", "rows", "boxes", "picture", "width", "height", "x", "y"] ["text"] F T.g_read_picture sc (fun _ _ _ _ _ _ us hl => match us, hl with | [_], _ => rfl) (fun vs H Q E h => ?_) (fun cdv A outer s H vs Q E hr h => ⟨_,
      pss_cons (ps_set (i := 1) sc.nd rfl (Or.inl rfl) (pe_x (ok_lines_told T G kG bG) hr (by decide) (E := E) (passes_call (takes_of rfl rfl rfl rfl) fun _ _ _ _ z => z) rfl (pa_cons (pv 0) (pa_cons (pe_glob (v := .ref (He.ga K "box_told")) rfl T.g_box_told rfl) pa_nil))))
      (pss_cons (ps_set (i := 2) sc.nd rfl (Or.inl rfl) (pe_make T.mkB FB (hr.mono (by decide)) rfl T.g_Boxes BB .nil (E := E) (passes_call (takes_of rfl rfl rfl rfl) fun _ _ _ _ z => z) (pa_cons (pe_callTy call_tuple_of rfl T.f_tuple (by decide +kernel) (pa_cons
          (pe_lc (own := [("width", 4), ("height", 5), ("x", 6), ("y", 7)]) (g := gLst K 4 (gCons (gName 4) (gCons (gName 5) (gCons (gName 6) (gCons (gName 7) gNil))))) (tt := tYes) rfl sc.nd (pi_list (pv 1)) (blkOk_by (own := [("width", 4), ("height", 5), ("x", 6), ("y", 7)]) (N := ["text", "rows", "boxes", "picture", "width", "height", "x", "y"]) (sc := defScope (top 43)) (by decide +kernel))
            (fun _ _ _ _ _ => pg_lst rfl (pgs_cons (pg_name (i := 4) sc.nd rfl (Or.inl rfl)) (pgs_cons (pg_name (i := 5) sc.nd rfl (Or.inl rfl)) (pgs_cons (pg_name (i := 6) sc.nd rfl (Or.inl rfl)) (pgs_cons (pg_name (i := 7) sc.nd rfl (Or.inl rfl)) pgs_nil))))) (fun _ _ _ _ _ => pts_nil)
            (fun _ _ _ _ _ => pe_tup (pa_cons (pv 4) (pa_cons (pv 5) pa_nil)))) pa_nil)) pa_nil)))
      (pss_cons (ps_set (i := 3) sc.nd rfl (Or.inl rfl) (pe_callTy call_tuple_of rfl T.f_tuple (by decide +kernel) (pa_cons
          (pe_lc (own := [("width", 4), ("height", 5), ("x", 6), ("y", 7)]) (g := gLst K 4 (gCons (gName 4) (gCons (gName 5) (gCons (gName 6) (gCons (gName 7) gNil))))) (tt := tYes) rfl sc.nd (pi_list (pv 1)) (blkOk_by (own := [("width", 4), ("height", 5), ("x", 6), ("y", 7)]) (N := ["text", "rows", "boxes", "picture", "width", "height", "x", "y"]) (sc := defScope (top 43)) (by decide +kernel))
            (fun _ _ _ _ _ => pg_lst rfl (pgs_cons (pg_name (i := 4) sc.nd rfl (Or.inl rfl)) (pgs_cons (pg_name (i := 5) sc.nd rfl (Or.inl rfl)) (pgs_cons (pg_name (i := 6) sc.nd rfl (Or.inl rfl)) (pgs_cons (pg_name (i := 7) sc.nd rfl (Or.inl rfl)) pgs_nil))))) (fun _ _ _ _ _ => pts_nil)
            (fun _ _ _ _ _ => pe_tup (pa_cons (pv 6) (pa_cons (pv 7) pa_nil)))) pa_nil)))
      (pss_cons (ps_expr (pe_x (ok_check_picture T) hr (by decide) (E := E) (passes_call (takes_of rfl rfl rfl rfl) fun _ _ _ _ z => z) rfl (pa_cons (pv 2) (pa_cons (pv 3) pa_nil))))
      (pss_one (ps_ret (pe_tup (pa_cons (pv 2) (pa_cons (pv 3) pa_nil)))))))), ?_⟩)
  · obtain ⟨tv, rfl, _⟩ := h; rfl
  · obtain ⟨tv, rfl, h⟩ := h
    rcases h with ⟨hns, qe⟩ | ⟨text, rfl, hl, q⟩
    · exact ⟨_, rfl, tv, rfl, .inl ⟨hns, qe⟩⟩
    · refine ⟨_, rfl, _, rfl, .inr ⟨text, rfl, hl, fun n hn => ?_, fun rows hrows H1 pr ys S1 hpr0 hpr hys => ?_⟩⟩
      · unfold picOut at q
        rw [hn] at q
        exact q
      · have ep : picOut text = picRows (sizesOf rows) (placesOf rows) := by
          unfold picOut
          rw [hrows]
        rw [ep] at q
        have hrl := rows_len hrows hl
        have hyl : ys.length = rows.length := by rw [dpAll_len hys, List.length_map]
        -- the item at i of the rows
        have item : ∀ {i : Nat} {x : V} {r : Row}, ys[i]? = some x → rows[i]? = some r → ∃ a e0 e1 e2 e3, x = .ref a ∧ SqL K (del H1 pr) a [.int e0, .int e1, .int e2, .int e3] ∧ r.2 = [e0, e1, e2, e3] := by
          intro i x r hx hr2
          obtain ⟨d, e1, e2⟩ := dpAll_get hys hx
          rw [List.getElem?_map, hr2] at e1
          cases e1
          obtain ⟨a, zs, rfl, hz, hzs⟩ := dp_lst e2
          obtain ⟨e0, e1, e2, e3, e4⟩ := four (rows_box hrows (List.mem_of_getElem? hr2))
          rw [e4] at hzs
          cases dpAll_ints hzs
          exact ⟨a, e0, e1, e2, e3, rfl, hz, e4⟩
        refine ⟨_, rfl, pr, rfl, ⟨_, SqL.of hpr⟩, fun D hD => lc_dp (K := K) (walk_list (K := K) (a := pr) (xs := ys)) ((sizesOf rows).map encP) (by unfold sizesOf; rw [List.length_map, List.length_map, hyl]) (le_line (by omega)) hD (fun H3 h3 => SqL.of (del_sub _ _ _ _ (h3 _ _ hpr))) yAt_same (fun i x H3 H4 d Qc hd h3 hacc hY hQ => ?_) (fun H2 ys2 h2 hD2 hds2 => ?_)⟩
        · obtain ⟨rfl, hx⟩ := hY
          unfold sizesOf at hd
          rw [List.getElem?_map, List.getElem?_map] at hd
          cases er : rows[i]? with
          | none => rw [er] at hd; cases hd
          | some r =>
            rw [er] at hd
            cases hd
            obtain ⟨a, e0, e1, e2, e3, rfl, hz, e4⟩ := item hx er
            obtain ⟨acc, hacc⟩ := hacc
            refine ⟨a, _, rfl, sqL_ext (same_extN ((del_sub _ _).trans (h3.trans (del_sub _ _)))) hz, rfl, _, _, rfl, _, _, rfl, _, _, rfl, _, _, rfl, rfl, rfl, ?_⟩
            refine ⟨_, rfl, _, rfl, (by show 2 ≤ sizeLine; decide), fun t ht => hQ _ _ (same_upd ht) ?_⟩
            have hta : t ≠ D := Ne.symm (ne_of_none hacc ht)
            rw [del_upd_ne hta]
            dsimp only
            rw [e4]
            exact tup_new (by rw [del_ne hta]; exact ht) (ints_dpAll [e0, e1])
        · have S2 : Same H1 H2 := h2.trans (del_sub _ _)
          refine ⟨D, ys2, rfl, .inl ⟨SqL.of hD2, fun l hl2 => ?_⟩⟩
          have S3 := S2.trans (same_upd (o := .tup ys2) hl2)
          intro x dx hx hdx hxd
          have S4 : Same (upd H2 l (.tup ys2)) (upd (upd (upd H2 l (.tup ys2)) dx (.own x)) x (.ins (cBx K) dx [])) :=
            (same_upd hdx).trans (same_upd (by rw [upd_ne (Ne.symm hxd)]; exact hx))
          have hdl : Dp K (upd H2 l (.tup ys2)) (.ref l) (encPs (sizesOf rows)) := tup_new hl2 (dpAll_ext (del_sub _ _) hds2)
          refine ⟨x, dx, .ref l, sizesOf rows, rfl, upd_same, dp_ext (same_to_del S4 hx) hdl, by unfold sizesOf; rw [List.length_map]; exact hrl, fun hbad H5 S5 hx5 => ⟨rfl, ?_⟩, fun p hp => ?_⟩
          · -- the boxes stand at x
            have S35 : Same (upd H2 l (.tup ys2)) H5 := (same_to_del S4 hx).trans (S5.trans (del_sub _ _))
            have S15 : Same H1 H5 := S3.trans S35
            have hB5 : BoxAt K H5 x (sizesOf rows) := ⟨dx, .ref l, hx5, dp_ext S35 hdl⟩
            have hpr5 := S15 _ _ hpr
            refine ⟨_, rfl, pr, rfl, ⟨_, SqL.of hpr5⟩, fun D2 hDD => lc_dp (K := K) (walk_list (K := K) (a := pr) (xs := ys)) ((placesOf rows).map encP) (by unfold placesOf; rw [List.length_map, List.length_map, hyl]) (le_line (by omega)) hDD (fun H6 h6 => SqL.of (del_sub _ _ _ _ (h6 _ _ hpr5))) yAt_same (fun i y H6 H7 d Qc hd h6 hacc hY hQ => ?_) (fun H6 ys6 h6 hD6 hds6 => ?_)⟩
            · obtain ⟨rfl, hy⟩ := hY
              unfold placesOf at hd
              rw [List.getElem?_map, List.getElem?_map] at hd
              cases er : rows[i]? with
              | none => rw [er] at hd; cases hd
              | some r =>
                rw [er] at hd
                cases hd
                obtain ⟨a, e0, e1, e2, e3, rfl, hz, e4⟩ := item hy er
                obtain ⟨acc, hacc⟩ := hacc
                refine ⟨a, _, rfl, sqL_ext (same_extN ((del_sub _ _).trans (S15.trans (h6.trans (del_sub _ _))))) hz, rfl, _, _, rfl, _, _, rfl, _, _, rfl, _, _, rfl, rfl, rfl, ?_⟩
                refine ⟨_, rfl, _, rfl, (by show 2 ≤ sizeLine; decide), fun t ht => hQ _ _ (same_upd ht) ?_⟩
                have hta : t ≠ D2 := Ne.symm (ne_of_none hacc ht)
                rw [del_upd_ne hta]
                dsimp only
                rw [e4]
                exact tup_new (by rw [del_ne hta]; exact ht) (ints_dpAll [e2, e3])
            · have S6 : Same H5 H6 := h6.trans (del_sub _ _)
              refine ⟨D2, ys6, rfl, .inl ⟨SqL.of hD6, fun pa hpa => ?_⟩⟩
              have S7 := S6.trans (same_upd (o := .tup ys6) hpa)
              have hm := bad_len40 hbad
              have hds7 : DpAll K (upd H6 pa (.tup ys6)) ys6 ((placesOf rows).map encP) := dpAll_ext ((del_sub _ _).trans (same_upd hpa)) hds6
              have hP : PicData K (upd H6 pa (.tup ys6)) x pa (sizesOf rows) (placesOf rows) := ⟨boxAt_ext (same_extN S7) hB5, ⟨ys6, SqT.of upd_same, hds7⟩, by unfold placesOf sizesOf; rw [List.length_map, List.length_map], hm⟩
              have S17 : Same H (upd H6 pa (.tup ys6)) := S1.trans (S15.trans S7)
              unfold picRows at q
              rw [hbad] at q
              refine ⟨_, rfl, _, rfl, x, pa, sizesOf rows, placesOf rows, rfl, hP, fun hok H8 S8 => ?_, fun hno H8 S8 => ?_⟩
              · simp only [hok, if_true] at q
                refine ⟨_, rfl, _, rfl, (by show 2 ≤ sizeLine; decide), fun t ht => ?_⟩
                have S9 := S8.trans (same_upd (o := .tup [V.ref x, V.ref pa]) ht)
                exact q _ _ (S17.trans S9) ⟨t, x, pa, rfl, SqT.of upd_same, boxAt_ext (same_extN S9) hP.b, dp_ext S9 (.tup (SqT.of upd_same) hds7)⟩
              · simp only [hno, if_neg Bool.false_ne_true] at q
                exact q _ (S17.trans S8)
          · unfold picRows at q
            rw [hp] at q
            exact XOut.mono q (S1.trans (S3.trans S4))
def spReadS (K : PySem.W.Frag) : Sp := fun vs H Q E => ∃ (x : Addr) (ss : List II) (tv : V), vs = [.ref x, tv] ∧ BoxAt K H x ss ∧ ((NotStr K H tv ∧ XOut E (cBT K) "line" 0 H) ∨ ∃ text : Str, tv = .str text ∧ text.length ≤ 900000 ∧ ScrE K E H Q (scrOut ss.length text))
theorem ok_read_script (T : Txt K mg) : CalX P w K mg base (L2.CX P w) 7 "read_script" (spReadS K) := by
  obtain ⟨fd, F⟩ := T.d_read_script
  obtain ⟨x1, x2, x3, x4⟩ := T.exc_NoScript
  obtain ⟨g, fg, pg, G, mG, kG, bG⟩ := (ok_stroke_told (P := P) (w := w) (base := base) T).ex
  have eg : g = He.ga K "stroke_told" := by
    have := mG.symm.trans T.g_stroke_told
    cases this
    rfl
  subst eg
  have sc : FnScope ["boxes", "text", "script"] ["boxes", "text"] (defScope (top 44)) := C8.fnScope_by (by decide +kernel)
  refine mk_cal ["boxes", "text", "script"] ["boxes", "text"] F T.g_read_script sc (fun _ _ _ _ _ _ us hl => match us, hl with | [_, _], _ => rfl) (fun vs H Q E h => ?_) (fun cdv A outer s H vs Q E (hr : Room 6 _) h => ⟨_,
      pss_cons (ps_set (i := 2) sc.nd rfl (Or.inl rfl) (pe_callTy call_tuple_of rfl T.f_tuple (by decide +kernel) (pa_cons (pe_x (ok_lines_told T G kG bG) hr (by decide) (E := E) (passes_call (takes_of rfl rfl rfl rfl) fun _ _ _ _ z => z) rfl (pa_cons (pv 1) (pa_cons (pe_glob (v := .ref (He.ga K "stroke_told")) rfl T.g_stroke_told rfl) pa_nil))) pa_nil)))
      (pss_cons (ps_if (pt_not (pt_val (pe_0 (ok_is_form T) hr (by decide) rfl (pa_cons (pv 0) (pa_cons (pv 2) pa_nil))))) (pss_one (ps_raise rfl (takes_of rfl rfl rfl rfl) (pmk_own0 PySem.F.excBase_ValueError x1 T.g_NoScript x2 (raises_own x3 x4) rfl))) pss_nil)
      (pss_one (ps_ret (pv 2)))), ?_⟩)
  · obtain ⟨x, ss, tv, rfl, _⟩ := h; rfl
  · obtain ⟨x, ss, tv, rfl, hx, h⟩ := h
    rcases h with ⟨hns, qe⟩ | ⟨text, rfl, hl, q⟩
    · exact ⟨_, rfl, tv, rfl, .inl ⟨hns, qe⟩⟩
    · refine ⟨_, rfl, _, rfl, .inr ⟨text, rfl, hl, fun n hn => ?_, fun rows hrows H1 pr ys S1 hpr0 hpr hys => ?_⟩⟩
      · unfold scrOut at q
        rw [hn] at q
        exact q
      · have es : scrOut ss.length text = scrRows ss.length rows := by
          unfold scrOut
          rw [hrows]
        rw [es] at q
        refine ⟨pr, ys, rfl, .inl ⟨SqL.of hpr, fun l hl2 => ?_⟩⟩
        have S2 := S1.trans (same_upd (o := .tup ys) hl2)
        have hdl : Dp K (upd H1 l (.tup ys)) (.ref l) (.tuple (rows.map encR)) := tup_new hl2 (dpAll_ext (del_sub _ _) hys)
        refine ⟨_, rfl, _, rfl, x, ss, .ref l, rows, rfl, boxAt_ext (same_extN S2) hx, hdl, rows_len hrows hl, fun r hr2 => rows_stroke hrows hl hr2, fun H3 S3 => ⟨_, rfl, ?_⟩⟩
        unfold scrRows at q
        cases c : (decide (rows.length ≤ 200) && rows.all fun r => decide (r.2.length = ss.length)) with
        | true =>
          rw [Bool.and_eq_true, decide_eq_true_eq] at c
          rw [if_pos c] at q
          exact iteF ⟨_, rfl, q _ _ (S2.trans S3) (dp_ext S3 hdl)⟩
        | false =>
          have c' : ¬ (rows.length ≤ 200 ∧ (rows.all fun r => decide (r.2.length = ss.length)) = true) := fun z => by
            rw [z.2, decide_eq_true z.1] at c
            cases c
          rw [if_neg c'] at q
          exact iteT (q _ (S2.trans S3))
end
end K45

namespace K45
open PySem PySem.Spec PyProof.Rows L2
/-- cut a block behind its first statement -/
theorem seq_by {t u : TS} {D : Ends} {σ : L2.St} {H : Hp} (M : L2.St → Hp → Prop) (hu : ∀ σ' H', M σ' H' → u D σ' H') (ht : ∀ N : L2.St → Hp → Prop, (∀ σ' H', M σ' H' → N σ' H') → t { D with nx := N } σ H) : tSeq t u D σ H := ht (u D) hu
/-! ### the hand -/
structure HandSt (K : PySem.W.Frag) (H : Hp) (h c : Addr) (i b s k : Int) (ns : List Int) : Prop where
  at_ : H h = some (.lst [.ref c, .int i, .int b, .int s, .int k])
  cs : SqL K (del H h) c (ns.map V.int)
  i0 : 0 ≤ i
  b0 : 0 ≤ b
  n0 : ∀ n ∈ ns, 0 ≤ n
  nl : ns.length ≤ 1000000
def HandAt (K : PySem.W.Frag) (H : Hp) (h : Addr) : Prop := ∃ c i b s k ns, HandSt K H h c i b s k ns
/-- the hand has turned, all else stays -/
structure Step (K : PySem.W.Frag) (h : Addr) (H H' : Hp) : Prop where
  h1 : HandAt K H' h
  s2 : Same (del H h) (del H' h)
  k3 : ∀ c r, H h = some (.lst (.ref c :: r)) → ∃ r', H' h = some (.lst (.ref c :: r'))
section
variable {K : PySem.W.Frag} {H H' H1 H2 : Hp} {h : Addr}
theorem HandSt.same {c : Addr} {i b s k : Int} {ns : List Int} (x : HandSt K H h c i b s k ns) (e : Same H H') : HandSt K H' h c i b s k ns :=
  ⟨e _ _ x.at_, sqL_ext (same_extN (same_del h e)) x.cs, x.i0, x.b0, x.n0, x.nl⟩
theorem HandAt.same (x : HandAt K H h) (e : Same H H') : HandAt K H' h := by
  obtain ⟨c, i, b, s, k, ns, x⟩ := x
  exact ⟨c, i, b, s, k, ns, x.same e⟩
theorem Step.trans (a : Step K h H H1) (b : Step K h H1 H2) : Step K h H H2 := ⟨b.1, a.2.trans b.2, fun c r e => let ⟨r', e'⟩ := a.3 c r e; b.3 c r' e'⟩
theorem Step.same (x : HandAt K H h) (e : Same H H') : Step K h H H' := ⟨x.same e, same_del h e, fun _ r z => ⟨r, e _ _ z⟩⟩
theorem Step.refl (x : HandAt K H h) : Step K h H H := ⟨x, Same.refl _, fun _ r z => ⟨r, z⟩⟩
/-- a place of the hand is stored -/
theorem HandSt.put {c : Addr} {i b s k i' b' s' k' : Int} {ns : List Int} (x : HandSt K H h c i b s k ns) (hi : 0 ≤ i') (hb : 0 ≤ b') : HandSt K (upd H h (.lst [.ref c, .int i', .int b', .int s', .int k'])) h c i' b' s' k' ns :=
  ⟨upd_same, by rw [del_upd]; exact x.cs, hi, hb, x.n0, x.nl⟩
theorem hand_there {c : Addr} {i b s k : Int} {ns : List Int} (x : HandSt K H h c i b s k ns) {p : Addr} (n : H p = none) : p ≠ h := Ne.symm (ne_of_none x.at_ n)
end
section
variable {P : Program} {w : World} {K : PySem.W.Frag} {mg : Str → Option Value} {base : Heap}
theorem cut_ints (ns : List Int) (lo hi : Option Int) : ∃ ms : List Int, cutV (ns.map V.int) lo hi = ms.map V.int ∧ ms.length ≤ ns.length := by
  unfold cutV
  rw [List.length_map]
  refine ⟨(ns.drop (HT.sIx ns.length 0 lo)).take (HT.sIx ns.length ns.length hi - HT.sIx ns.length 0 lo), ?_, ?_⟩
  · rw [List.map_take, List.map_drop]
  · rw [List.length_take, List.length_drop]; omega
def spHand (K : PySem.W.Frag) : Sp := fun vs H Q _ => ∃ (a : Addr) (ns : List Int), vs = [.ref a] ∧ SqL K H a (ns.map V.int) ∧ ns.length ≤ 1000000 ∧ ∀ H' h, Same H H' → H h = none → HandAt K H' h → Q (.ref h) H'
theorem ok_law_hand (T : Txt K mg) : CalX P w K mg base CX0 1 "_law_hand" (spHand K) := by
  obtain ⟨fd, F⟩ := T.d__law_hand
  have sc : FnScope ["_law_script", "_law_cells", "_law_cell"] ["_law_script"] (defScope (top 46)) := C8.fnScope_by (by decide +kernel)
  refine mk_cal0 ["_law_script", "_law_cells", "_law_cell"] ["_law_script"] F T.g__law_hand sc (fun _ _ _ _ _ _ us hl => match us, hl with | [_], _ => rfl) (fun vs H Q E h => ?_) (fun cdv A outer s H vs Q E hr h => ⟨_,
      pss_cons (ps_setLc (i := 1) (own := [("_law_cell", 2)]) (g := gName 2) (tt := tYes) rfl sc.nd rfl rfl (sw_true rfl rfl rfl (by decide +kernel)) (pi_list (pe_slice sl_list (pv 0) po_none (po_some pe_int))) (blkOk_by (own := [("_law_cell", 2)]) (N := ["_law_script", "_law_cells", "_law_cell"]) (sc := defScope (top 46)) (by decide +kernel))
        (fun _ _ _ _ _ => pg_name (i := 2) sc.nd rfl (Or.inl rfl)) (fun _ _ _ _ _ => pts_nil) (fun _ _ _ _ _ => pe_callB call_abs rfl T.f_abs (by decide +kernel) (pa_cons (pe_callTy call_int1 rfl T.f_int (by decide +kernel) (pa_cons (pv 2) pa_nil)) pa_nil)))
      (pss_one (ps_ret (pe_lst (pa_cons (pv 1) (pa_cons pe_int (pa_cons pe_int (pa_cons (pe_op op_add pe_int (pe_callB call_len rfl T.f_len boot_len (pa_cons (pv 1) pa_nil))) (pa_cons pe_int pa_nil)))))))), ?_⟩)
  · obtain ⟨a, ns, rfl, _⟩ := h; rfl
  · obtain ⟨a, ns, rfl, ha, hz, q⟩ := h
    obtain ⟨ms, ems, hms⟩ := cut_ints ns none (some 63)
    refine ⟨_, rfl, _, rfl, a, _, rfl, ha, fun sp hsp => ?_⟩
    rw [ems]
    have S1 := same_upd (o := .lst (ms.map V.int)) hsp
    refine ⟨sp, rfl, ⟨_, SqL.of upd_same⟩, fun D hD => lc_dp (K := K) (walk_list (K := K) (a := sp) (xs := ms.map V.int)) ((ms.map fun i => if i < 0 then -i else i).map PyData.int) (by simp) (le_line (by rw [List.length_map]; omega)) hD (fun H1 h1 => SqL.of (del_sub _ _ _ _ (h1 _ _ upd_same))) yAt_same (fun i y H1 H2 d Qc hd h1 hacc hY hQ => ?_) (fun H1 ys h1 hD2 hds => ?_)⟩
    · obtain ⟨rfl, hy⟩ := hY
      have hy' : (ms.map V.int)[i]? = some y := hy
      rw [List.getElem?_map] at hy'
      rw [List.getElem?_map, List.getElem?_map] at hd
      cases e : ms[i]? with
      | none => rw [e] at hy'; cases hy'
      | some n =>
        rw [e] at hy' hd
        cases hy'
        cases hd
        exact ⟨rfl, _, rfl, .inl ⟨n, rfl, n, rfl, hQ _ _ (Same.refl _) (.int _)⟩⟩
    · cases dpAll_ints hds
      have S2 : Same H H1 := S1.trans (h1.trans (del_sub _ _))
      refine ⟨_, rfl, _, rfl, _, _, rfl, .inl ⟨_, SqL.of hD2, rfl⟩, _, _, rfl, rfl, (by show 5 ≤ sizeLine; decide), fun hh hhn => ?_⟩
      refine q _ hh (S2.trans (same_upd hhn)) (S2.free hhn) ⟨D, 0, 0, _, 0, ms.map fun i => if i < 0 then -i else i, upd_same, ?_, by decide, by decide, ?_, by rw [List.length_map]; omega⟩
      · have hDh : D ≠ hh := ne_of_none hD2 hhn
        exact SqL.of (by rw [del_ne hDh, upd_ne hDh]; exact hD2)
      · intro n hn
        obtain ⟨i, _, rfl⟩ := List.mem_map.mp hn
        by_cases c : i < 0
        · rw [if_pos c]; omega
        · rw [if_neg c]; omega
/-! ### _law_draw -/
def spDraw (K : PySem.W.Frag) : Sp := fun vs H Q _ => ∃ (h : Addr) (m : Int), vs = [.ref h, .int m] ∧ HandAt K H h ∧ 0 < m ∧ m ≤ 1000000 ∧ ∀ H' n, Step K h H H' → 0 ≤ n → n < m → Q (.int n) H'
theorem ok_law_draw (T : Txt K mg) : CalX P w K mg base CX0 1 "_law_draw" (spDraw K) := by
  obtain ⟨fd, F⟩ := T.d__law_draw
  have sc : FnScope ["_law_hand_here", "_law_many", "_law_cell", "_law_digit", "_law_number_here"] ["_law_hand_here", "_law_many"] (defScope (top 47)) := C8.fnScope_by (by decide +kernel)
  refine mk_cal0 ["_law_hand_here", "_law_many", "_law_cell", "_law_digit", "_law_number_here"] ["_law_hand_here", "_law_many"] F T.g__law_draw sc (fun _ _ _ _ _ _ us hl => match us, hl with | [_, _], _ => rfl) (fun vs H Q E h => ?_) (fun cdv A outer s H vs Q E hr h => ⟨_,
      pss_cons (ps_if (PW.pt (pw_and (pt_cmpR op_eq (pe_ix ix_list (pv 0) pe_int (fun _ _ => rfl)) pe_int (nomark _)) (pw_and1 (pt_cmpR op_lt (pe_ix ix_list (pv 0) pe_int (fun _ _ => rfl)) (pe_callB call_len rfl T.f_len boot_len (pa_cons (pe_ix ix_list (pv 0) pe_int (fun _ _ => rfl)) pa_nil)) (nomark _)))))
        (pss_cons (ps_set (i := 2) sc.nd rfl (Or.inl rfl) (pe_ix ix_list (pe_ix ix_list (pv 0) pe_int (fun _ _ => rfl)) (pe_ix ix_list (pv 0) pe_int (fun _ _ => rfl)) (fun _ _ => rfl)))
        (pss_cons (ps_asg (pe_op op_add (pe_ix ix_list (pv 0) pe_int (fun _ _ => rfl)) pe_int) (pg_sub (pv 0) pe_int set_list))
        (pss_cons (ps_asg (pe_op op_mod (pe_callTy call_int1 rfl T.f_int (by decide +kernel) (pa_cons (pe_op op_add (pe_op op_add (pe_op op_mul (pe_ix ix_list (pv 0) pe_int (fun _ _ => rfl)) pe_int) (pv 2)) pe_int) pa_nil)) pe_int) (pg_sub (pv 0) pe_int set_list))
        (pss_one (ps_if (pt_cmpR op_ge (pv 2) (pe_op op_pow pe_int pe_int) (nomark _)) (pss_one (ps_asg (pv 2) (pg_sub (pv 0) pe_int set_list))) pss_nil))))) pss_nil)
      (pss_cons (ps_if (pt_cmpR op_gt (pe_ix ix_list (pv 0) pe_int (fun _ _ => rfl)) pe_int (nomark _))
        (pss_cons (ps_set (i := 3) sc.nd rfl (Or.inl rfl) (pe_op op_mod (pe_callTy call_int1 rfl T.f_int (by decide +kernel) (pa_cons (pe_ix ix_list (pv 0) pe_int (fun _ _ => rfl)) pa_nil)) (pv 1)))
        (pss_cons (ps_asg (pe_op op_fdiv (pe_ix ix_list (pv 0) pe_int (fun _ _ => rfl)) (pv 1)) (pg_sub (pv 0) pe_int set_list))
        (pss_one (ps_ret (pv 3))))) pss_nil)
      (pss_cons (ps_asg (pe_op op_add (pe_ix ix_list (pv 0) pe_int (fun _ _ => rfl)) pe_int) (pg_sub (pv 0) pe_int set_list))
      (pss_cons (ps_set (i := 4) sc.nd rfl (Or.inl rfl) (pe_op op_mod (pe_callTy call_int1 rfl T.f_int (by decide +kernel) (pa_cons (pe_op op_mul (pe_callTy call_int1 rfl T.f_int (by decide +kernel) (pa_cons (pe_op op_add (pe_ix ix_list (pv 0) pe_int (fun _ _ => rfl)) (pe_op op_mul pe_int (pe_ix ix_list (pv 0) pe_int (fun _ _ => rfl)))) pa_nil)) pe_int) pa_nil)) pe_int))
      (pss_cons (ps_set (i := 4) sc.nd rfl (Or.inl rfl) (pe_op op_mod (pe_callTy call_int1 rfl T.f_int (by decide +kernel) (pa_cons (pe_op op_mul (pv 4) (pe_op op_add (pe_op op_fdiv (pv 4) pe_int) pe_int)) pa_nil)) pe_int))
      (pss_cons (ps_set (i := 4) sc.nd rfl (Or.inl rfl) (pe_op op_mod (pe_callTy call_int1 rfl T.f_int (by decide +kernel) (pa_cons (pe_op op_mul (pv 4) (pe_op op_add (pe_op op_fdiv (pv 4) pe_int) pe_int)) pa_nil)) pe_int))
      (pss_one (ps_ret (pe_op op_mod (pe_callTy call_int1 rfl T.f_int (by decide +kernel) (pa_cons (pe_op op_fdiv (pv 4) pe_int) pa_nil)) (pv 1))))))))), ?_⟩)
  · obtain ⟨a, m, rfl, _⟩ := h; rfl
  · obtain ⟨hh, m, rfl, ⟨c, i, b, s0, k, ns, hS⟩, hm0, hm1, q⟩ := h
    refine seq_by (fun σ' H' => ∃ o2 i' b' s', σ' = [some (.ref hh), some (.int m), o2, none, none] ∧ HandSt K H' hh c i' b' s' k ns ∧ del H' hh = del H hh) ?_ ?_
    · rintro σ' H1 ⟨o2, i1, b1, s1, rfl, hS1, hd1⟩
      have hq : ∀ {H2 i2 b2 s2 k2}, HandSt K H2 hh c i2 b2 s2 k2 ns → del H2 hh = del H hh → Step K hh H H2 := fun x e => ⟨⟨_, _, _, _, _, _, x⟩, by rw [e]; exact Same.refl _, fun c' r z => by
        rw [hS.at_] at z
        cases z
        exact ⟨_, x.at_⟩⟩
      refine ⟨_, rfl, hh, _, 2, _, rfl, rfl, SqL.of hS1.at_, rfl, _, _, rfl, rfl, _, rfl, ?_⟩
      by_cases cb : 0 < b1
      · rw [decide_eq_true cb]
        refine iteT ?_
        refine ⟨_, rfl, hh, _, 2, _, rfl, rfl, SqL.of hS1.at_, rfl, .inl ⟨b1, rfl, _, rfl, _, _, rfl, rfl, hm0, ?_⟩⟩
        refine ⟨_, rfl, hh, _, 2, _, rfl, rfl, SqL.of hS1.at_, rfl, _, rfl, _, _, rfl, rfl, ⟨hm0, by omega⟩, ?_⟩
        refine ⟨_, rfl, hh, _, 2, 2, rfl, rfl, hS1.at_, rfl, ?_⟩
        refine ⟨_, rfl, q _ _ (hq (hS1.put (i' := i1) (b' := b1 / m) (s' := s1) (k' := k) hS1.i0 (Int.ediv_nonneg (by omega) (by omega))) (by rw [del_upd]; exact hd1)) (Int.emod_nonneg _ (by omega)) (Int.emod_lt_of_pos _ hm0)⟩
      · rw [decide_eq_false cb]
        refine iteF ?_
        refine ⟨_, rfl, hh, _, 4, _, rfl, rfl, SqL.of hS1.at_, rfl, _, _, rfl, rfl, ?_⟩
        refine ⟨_, rfl, hh, _, 4, 4, rfl, rfl, hS1.at_, rfl, ?_⟩
        have hS2 := hS1.put (i' := i1) (b' := b1) (s' := s1) (k' := k + 1) hS1.i0 hS1.b0
        have hat : (upd H1 hh (.lst ([V.ref c, V.int i1, V.int b1, V.int s1, V.int k].set 4 (V.int (k + 1))))) hh = some (.lst [V.ref c, V.int i1, V.int b1, V.int s1, V.int (k + 1)]) := upd_same
        refine ⟨_, rfl, hh, _, 3, _, rfl, rfl, SqL.of hat, rfl, _, rfl, hh, _, 4, _, rfl, rfl, SqL.of hat, rfl, _, _, rfl, rfl, .inl ⟨by decide, by decide⟩, _, _, rfl, rfl, .inl ⟨_, rfl, _, _, rfl, rfl, .inr ⟨by decide, by decide⟩, .inl ⟨_, rfl, _, _, rfl, rfl, (show (0 : Int) < 2147483647 by decide), ?_⟩⟩⟩
        have r1 := Int.emod_nonneg ((s1 + 7919 * (k + 1)) * 48271) (show (2147483647 : Int) ≠ 0 by decide)
        have r2 := Int.emod_lt_of_pos ((s1 + 7919 * (k + 1)) * 48271) (show (0 : Int) < 2147483647 by decide)
        generalize ((s1 + 7919 * (k + 1)) * 48271) % 2147483647 = n1 at r1 r2
        refine ⟨_, rfl, _, rfl, _, _, rfl, rfl, ⟨by decide, by decide⟩, _, _, rfl, rfl, _, _, rfl, rfl, .inl ⟨by omega, by omega⟩, .inl ⟨_, rfl, _, _, rfl, rfl, (show (0 : Int) < 2147483647 by decide), ?_⟩⟩
        have r3 := Int.emod_nonneg (n1 * (n1 / 1009 + 69621)) (show (2147483647 : Int) ≠ 0 by decide)
        have r4 := Int.emod_lt_of_pos (n1 * (n1 / 1009 + 69621)) (show (0 : Int) < 2147483647 by decide)
        generalize (n1 * (n1 / 1009 + 69621)) % 2147483647 = n2 at r3 r4
        refine ⟨_, rfl, _, rfl, _, _, rfl, rfl, ⟨by decide, by decide⟩, _, _, rfl, rfl, _, _, rfl, rfl, .inl ⟨by omega, by omega⟩, .inl ⟨_, rfl, _, _, rfl, rfl, (show (0 : Int) < 2147483399 by decide), ?_⟩⟩
        refine ⟨_, rfl, _, _, rfl, rfl, ⟨by decide, by decide⟩, .inl ⟨_, rfl, _, rfl, _, _, rfl, rfl, hm0, ?_⟩⟩
        exact q _ _ (hq hS2 (by rw [del_upd]; exact hd1)) (Int.emod_nonneg _ (by omega)) (Int.emod_lt_of_pos _ hm0)
    · intro N hN
      refine ⟨_, rfl, hh, _, 2, _, rfl, rfl, SqL.of hS.at_, rfl, rfl, _, rfl, ?_⟩
      cases cb : decide (V.int b = V.int 0) with
      | false => exact iteF (iteF (hN _ _ ⟨none, i, b, s0, rfl, hS, rfl⟩))
      | true =>
        refine iteT ?_
        refine ⟨_, rfl, hh, _, 1, _, rfl, rfl, SqL.of hS.at_, rfl, _, rfl, hh, _, 0, _, rfl, rfl, SqL.of hS.at_, rfl, _, _, rfl, .inl ⟨_, sqL_ext (same_extN (del_sub _ _)) hS.cs, rfl⟩, _, _, rfl, rfl, _, rfl, ?_⟩
        rw [List.length_map]
        by_cases ci : i < (ns.length : Int)
        · rw [decide_eq_true ci]
          refine iteT ?_
          have hlt : i.toNat < ns.length := by have := hS.i0; omega
          have ei : ((i.toNat : Nat) : Int) = i := by have := hS.i0; omega
          obtain ⟨cell, ecell, hn0⟩ : ∃ cell, atI (ns.map V.int) i = some (.int cell) ∧ 0 ≤ cell := by
            refine ⟨ns[i.toNat], ?_, hS.n0 _ (List.getElem_mem hlt)⟩
            have h1 : atI (ns.map V.int) ((i.toNat : Nat) : Int) = some (.int ns[i.toNat]) := atI_nat (by
              rw [List.getElem?_map, List.getElem?_eq_getElem hlt]
              rfl)
            rw [ei] at h1
            exact h1
          refine ⟨_, rfl, hh, _, 0, _, rfl, rfl, SqL.of hS.at_, rfl, _, rfl, hh, _, 1, _, rfl, rfl, SqL.of hS.at_, rfl, c, _, _, _, rfl, rfl, sqL_ext (same_extN (del_sub _ _)) hS.cs, ecell, ?_⟩
          refine ⟨_, rfl, hh, _, 1, _, rfl, rfl, SqL.of hS.at_, rfl, _, _, rfl, rfl, ?_⟩
          refine ⟨_, rfl, hh, _, 1, 1, rfl, rfl, hS.at_, rfl, ?_⟩
          have hS1 := hS.put (i' := i + 1) (b' := b) (s' := s0) (k' := k) (by have := hS.i0; omega) hS.b0
          have hat1 : (upd H hh (.lst ([V.ref c, V.int i, V.int b, V.int s0, V.int k].set 1 (V.int (i + 1))))) hh = some (.lst [V.ref c, V.int (i + 1), V.int b, V.int s0, V.int k]) := upd_same
          refine ⟨_, rfl, hh, _, 3, _, rfl, rfl, SqL.of hat1, rfl, _, _, rfl, rfl, .inr ⟨by decide, by decide⟩, _, rfl, _, _, rfl, rfl, _, _, rfl, rfl, .inl ⟨_, rfl, _, _, rfl, rfl, (show (0 : Int) < 2147483629 by decide), ?_⟩⟩
          refine ⟨_, rfl, hh, _, 3, 3, rfl, rfl, hat1, rfl, ?_⟩
          rw [upd_upd]
          have hS2 := hS.put (i' := i + 1) (b' := b) (s' := (s0 * 69621 + cell + 11) % 2147483629) (k' := k) (by have := hS.i0; omega) hS.b0
          refine ⟨_, rfl, _, _, rfl, rfl, ⟨by decide, by decide, by decide⟩, _, _, rfl, rfl, _, rfl, ?_⟩
          cases cc : decide ((10 : Int) ^ (18 : Int).toNat ≤ cell) with
          | false => exact iteF (hN _ _ ⟨_, i + 1, b, _, rfl, hS2, by rw [del_upd]⟩)
          | true =>
            refine iteT ⟨_, rfl, _, rfl, hh, _, 2, 2, rfl, rfl, hS2.at_, rfl, ?_⟩
            rw [upd_upd]
            exact hN _ _ ⟨_, i + 1, cell, _, rfl, hS.put (by have := hS.i0; omega) hn0, by rw [del_upd]⟩
        · rw [decide_eq_false ci]
          exact iteF (hN _ _ ⟨none, i, b, s0, rfl, hS, rfl⟩)
end
end K45

namespace K45
open PySem PySem.Spec PyProof.Rows L2
/-- no text, by what stands there -/
def NotS (K : PySem.W.Frag) (H : Hp) (v : V) : Prop := v = .non ∨ (∃ b, v = .bl b) ∨ (∃ i, v = .int i) ∨ ∃ a, v = .ref a ∧ ((∃ xs, H a = some (.lst xs)) ∨ (∃ xs, H a = some (.tup xs)) ∨ (∃ kvs, H a = some (.dK kvs)) ∨ ∃ dx fs, H a = some (.ins (cBx K) dx fs))
theorem NotS.ext {K : PySem.W.Frag} {H H' : Hp} {v : V} (e : LamX.ExtN H H') (h : NotS K H v) : NotS K H' v := by
  rcases h with h | h | h | ⟨a, rfl, h⟩
  · exact .inl h
  · exact .inr (.inl h)
  · exact .inr (.inr (.inl h))
  · refine .inr (.inr (.inr ⟨a, rfl, ?_⟩))
    rcases h with ⟨xs, h⟩ | ⟨xs, h⟩ | ⟨xs, h⟩ | ⟨dx, fs, h⟩
    · exact .inl ⟨xs, e _ _ h fun ps z => by cases z⟩
    · exact .inr (.inl ⟨xs, e _ _ h fun ps z => by cases z⟩)
    · exact .inr (.inr (.inl ⟨xs, e _ _ h fun ps z => by cases z⟩))
    · exact .inr (.inr (.inr ⟨dx, fs, e _ _ h fun ps z => by cases z⟩))
theorem NotS.notStr {K : PySem.W.Frag} {mg : Str → Option Value} {H : Hp} {v : V} (T : Txt K mg) (h : NotS K H v) : NotStr K H v := by
  have M := T.mo
  rcases h with rfl | ⟨b, rfl⟩ | ⟨i, rfl⟩ | ⟨a, rfl, ⟨xs, h⟩ | ⟨xs, h⟩ | ⟨xs, h⟩ | ⟨dx, fs, h⟩⟩
  · exact ⟨_, .base .non, kit_ty (by decide +kernel)⟩
  · exact ⟨_, .base (.bl b), kit_ty (by decide +kernel)⟩
  · exact ⟨_, .base (.int i), kit_ty (by decide +kernel)⟩
  · exact ⟨_, .base (.lst h), kit_ty (by decide +kernel)⟩
  · exact ⟨_, .base (.tup h), kit_ty (by decide +kernel)⟩
  · exact ⟨_, .base (.dK h), kit_ty (by decide +kernel)⟩
  · exact ⟨_, .base (.ins h T.cls M.isB.ha M.isB.hn M.isB.ht M.isB.hm), M.k4⟩
theorem toNat_cast {n : Int} (h : 0 ≤ n) : ((n.toNat : Nat) : Int) = n := by omega
theorem atI_pick {xs : List V} {n : Int} (h0 : 0 ≤ n) (h1 : n < (xs.length : Int)) : ∃ x, atI xs n = some x ∧ x ∈ xs := by
  have hlt : n.toNat < xs.length := by omega
  have h2 : atI xs ((n.toNat : Nat) : Int) = some xs[n.toNat] := atI_nat (List.getElem?_eq_getElem hlt)
  rw [toNat_cast h0] at h2
  exact ⟨_, h2, List.getElem_mem hlt⟩
section
variable {P : Program} {w : World} {K : PySem.W.Frag} {mg : Str → Option Value} {base : Heap}
/-! ### _law_any -/
def spAny (K : PySem.W.Frag) : Sp := fun vs H Q _ => ∃ (h l : Addr) (xs : List V), vs = [.ref h, .ref l] ∧ HandAt K H h ∧ SqL K (del H h) l xs ∧ 0 < xs.length ∧ xs.length ≤ 1000000 ∧ ∀ H' x, Step K h H H' → x ∈ xs → Q x H'
theorem ok_law_any (T : Txt K mg) : CalX P w K mg base CX0 2 "_law_any" (spAny K) := by
  obtain ⟨fd, F⟩ := T.d__law_any
  have sc : FnScope ["_law_hand_here", "_law_some"] ["_law_hand_here", "_law_some"] (defScope (top 48)) := C8.fnScope_by (by decide +kernel)
  refine mk_cal0 ["_law_hand_here", "_law_some"] ["_law_hand_here", "_law_some"] F T.g__law_any sc (fun _ _ _ _ _ _ us hl => match us, hl with | [_, _], _ => rfl) (fun vs H Q E h => ?_) (fun cdv A outer s H vs Q E hr h => ⟨_,
      pss_one (ps_ret (pe_ix ix_list (pv 1) (pe_0 (ok_law_draw T) hr (by decide) rfl (pa_cons (pv 0) (pa_cons (pe_callB call_len rfl T.f_len boot_len (pa_cons (pv 1) pa_nil)) pa_nil))) (fun _ _ => rfl))), ?_⟩)
  · obtain ⟨h, l, xs, rfl, _⟩ := h; rfl
  · obtain ⟨h, l, xs, rfl, hh, hl, h0, h1, q⟩ := h
    have hl' := sqL_ext (same_extN (del_sub _ _)) hl
    refine ⟨_, rfl, _, rfl, _, rfl, _, xs.length, rfl, .inl ⟨xs, hl', rfl⟩, h, _, rfl, hh, by omega, by omega, fun H1 n S1 n0 n1 => ?_⟩
    obtain ⟨x, e1, e2⟩ := atI_pick n0 n1
    exact ⟨l, xs, n, x, rfl, rfl, sqL_ext (same_extN (S1.2.trans (del_sub _ _))) hl, e1, q H1 x S1 e2⟩
/-! ### _law_deep -/
def spDeep (K : PySem.W.Frag) : Sp := fun vs H Q _ => ∃ h : Addr, vs = [.ref h] ∧ HandAt K H h ∧ ∀ H' x, Step K h H H' → NotS K (del H' h) x → Q x H'
theorem ok_law_deep (T : Txt K mg) : CalX P w K mg base CX0 3 "_law_deep" (spDeep K) := by
  obtain ⟨fd, F⟩ := T.d__law_deep
  have sc : FnScope ["_law_hand_here", "_law_thing", "_law_turn"] ["_law_hand_here"] (defScope (top 49)) := C8.fnScope_by (by decide +kernel)
  refine mk_cal0 ["_law_hand_here", "_law_thing", "_law_turn"] ["_law_hand_here"] F T.g__law_deep sc (fun _ _ _ _ _ _ us hl => match us, hl with | [_], _ => rfl) (fun vs H Q E h => ?_) (fun cdv A outer s H vs Q E hr h => ⟨_,
      pss_cons (ps_set (i := 1) sc.nd rfl (Or.inl rfl) (pe_0 (ok_law_any T) hr (by decide) rfl (pa_cons (pv 0) (pa_cons (pe_lst (pa_cons pe_int (pa_cons (pe_tup pa_nil) (pa_cons pe_str pa_nil)))) pa_nil))))
      (pss_cons (ps_for PassesOwn.never rfl (pi_range1 rfl T.f_range (pa_cons (pe_op op_add pe_int (pe_0 (ok_law_draw T) hr (by decide) rfl (pa_cons (pv 0) (pa_cons pe_int pa_nil)))) pa_nil)) (pg_name (i := 2) sc.nd rfl (Or.inl rfl))
        (pss_one (ps_set (i := 1) sc.nd rfl (Or.inl rfl) (pe_ifExp (pt_cmpR op_gt (pe_0 (ok_law_draw T) hr (by decide) rfl (pa_cons (pv 0) (pa_cons pe_int pa_nil))) pe_int (nomark _)) (pe_tup (pa_cons (pv 1) pa_nil)) (pe_lst (pa_cons (pv 1) pa_nil))))))
      (pss_one (ps_ret (pv 1)))), ?_⟩)
  · obtain ⟨h, rfl, _⟩ := h; rfl
  · obtain ⟨h, rfl, hh, q⟩ := h
    refine ⟨_, rfl, Nat.zero_le _, fun t ht => ⟨(by show 3 ≤ sizeLine; decide), fun l hl => ?_⟩⟩
    have S1 := (same_upd (o := .tup []) ht).trans (same_upd (o := .lst [.int 0, .ref t, .str "a"]) hl)
    have hh1 := hh.same S1
    have hlh : l ≠ h := by
      obtain ⟨c, i, b, s, k, ns, x⟩ := hh.same (same_upd (o := .tup []) ht)
      exact hand_there x hl
    refine ⟨h, l, _, rfl, hh1, SqL.of (by rw [del_ne hlh]; exact upd_same), (by show 0 < 3; decide), (by show 3 ≤ 1000000; decide), fun H2 x S2 _ => ?_⟩
    have S12 := (Step.same hh S1).trans S2
    refine ⟨_, rfl, h, 12, rfl, S2.1, by decide, by decide, fun H3 n S3 n0 n1 => ⟨_, _, rfl, rfl, _, rfl, by omega, by omega, for_range (lo := 0) (n := (18 + n).toNat) (fun k σ H' => ∃ tv o2, σ = [some (.ref h), some tv, o2] ∧ Step K h H H' ∧ (k = 0 ∨ NotS K (del H' h) tv)) ?_ ?_ ?_⟩⟩
    · exact ⟨x, none, rfl, S12.trans S3, .inl rfl⟩
    · rintro k σ H4 hk ⟨tv, o2, rfl, S4, _⟩
      refine ⟨_, rfl, h, 3, rfl, S4.1, by decide, by decide, fun H5 n2 S5 m0 m1 => ⟨_, _, rfl, rfl, _, rfl, ?_⟩⟩
      obtain ⟨c, i, b, s, k2, ns, x5⟩ := S5.1
      cases decide (0 < n2) with
      | true =>
        refine iteT ⟨_, rfl, (by show 1 ≤ sizeLine; decide), fun p hp => ?_⟩
        have hph := hand_there x5 hp
        exact ⟨_, _, rfl, (S4.trans S5).trans (Step.same S5.1 (same_upd hp)), .inr (.inr (.inr (.inr ⟨p, rfl, .inr (.inl ⟨_, by rw [del_ne hph]; exact upd_same⟩)⟩)))⟩
      | false =>
        refine iteF ⟨_, rfl, (by show 1 ≤ sizeLine; decide), fun p hp => ?_⟩
        have hph := hand_there x5 hp
        exact ⟨_, _, rfl, (S4.trans S5).trans (Step.same S5.1 (same_upd hp)), .inr (.inr (.inr (.inr ⟨p, rfl, .inl ⟨_, by rw [del_ne hph]; exact upd_same⟩⟩)))⟩
    · rintro σ H4 ⟨tv, o2, rfl, S4, hz | hz⟩
      · exact absurd hz (by omega)
      · exact ⟨_, rfl, q H4 tv S4 hz⟩
/-! ### _law_lie_apart, _law_shown_parts -/
def spApart (K : PySem.W.Frag) : Sp := fun vs H Q _ => ∃ (a b c d : Addr) (s1 s2 p1 p2 : II), vs = [.ref a, .ref b, .ref c, .ref d] ∧ SqT K H a [.int s1.1, .int s1.2] ∧ SqT K H b [.int s2.1, .int s2.2] ∧ SqT K H c [.int p1.1, .int p1.2] ∧ SqT K H d [.int p2.1, .int p2.2] ∧ Q (.bl (apart s1 s2 p1 p2)) H
theorem ok_law_lie_apart (T : Txt K mg) : CalX P w K mg base CX0 1 "_law_lie_apart" (spApart K) := by
  obtain ⟨fd, F⟩ := T.d__law_lie_apart
  have sc : FnScope ["_law_one", "_law_other", "_law_place", "_law_place_other"] ["_law_one", "_law_other", "_law_place", "_law_place_other"] (defScope (top 50)) := C8.fnScope_by (by decide +kernel)
  refine mk_cal0 ["_law_one", "_law_other", "_law_place", "_law_place_other"] ["_law_one", "_law_other", "_law_place", "_law_place_other"] F T.g__law_lie_apart sc (fun _ _ _ _ _ _ us hl => match us, hl with | [_, _, _, _], _ => rfl) (fun vs H Q E h => ?_) (fun cdv A outer s H vs Q E hr h => ⟨_,
      pss_cons (ps_if (PW.pt (pw_or (pt_cmpR op_ge (pe_ix ix_tup (pv 2) pe_int (fun _ _ => rfl)) (pe_op op_add (pe_ix ix_tup (pv 3) pe_int (fun _ _ => rfl)) (pe_ix ix_tup (pv 1) pe_int (fun _ _ => rfl))) (nomark _)) (pw_or1 (pt_cmpR op_ge (pe_ix ix_tup (pv 3) pe_int (fun _ _ => rfl)) (pe_op op_add (pe_ix ix_tup (pv 2) pe_int (fun _ _ => rfl)) (pe_ix ix_tup (pv 0) pe_int (fun _ _ => rfl))) (nomark _)))))
        (pss_one (ps_ret pe_bl)) pss_nil)
      (pss_one (ps_ret (pe_or (pe_cmpR op_ge (pe_ix ix_tup (pv 2) pe_int (fun _ _ => rfl)) (pe_op op_add (pe_ix ix_tup (pv 3) pe_int (fun _ _ => rfl)) (pe_ix ix_tup (pv 1) pe_int (fun _ _ => rfl))) (nomark _)) (pe_one (pe_cmpR op_ge (pe_ix ix_tup (pv 3) pe_int (fun _ _ => rfl)) (pe_op op_add (pe_ix ix_tup (pv 2) pe_int (fun _ _ => rfl)) (pe_ix ix_tup (pv 0) pe_int (fun _ _ => rfl))) (nomark _)))))), ?_⟩)
  · obtain ⟨a, b, c, d, s1, s2, p1, p2, rfl, _⟩ := h; rfl
  · obtain ⟨a, b, c, d, s1, s2, p1, p2, rfl, ha, hb, hc, hd, q⟩ := h
    unfold apart at q
    refine ⟨_, rfl, c, _, 0, _, rfl, rfl, hc, rfl, _, rfl, d, _, 0, _, rfl, rfl, hd, rfl, _, rfl, b, _, 0, _, rfl, rfl, hb, rfl, _, _, rfl, rfl, _, _, rfl, rfl, _, rfl, ?_⟩
    cases c1 : decide (p2.1 + s2.1 ≤ p1.1) with
    | true =>
      rw [c1, Bool.true_or, Bool.true_or] at q
      exact iteT (iteT q)
    | false =>
      rw [c1, Bool.false_or] at q
      refine iteF ⟨_, rfl, d, _, 0, _, rfl, rfl, hd, rfl, _, rfl, c, _, 0, _, rfl, rfl, hc, rfl, _, rfl, a, _, 0, _, rfl, rfl, ha, rfl, _, _, rfl, rfl, _, _, rfl, rfl, _, rfl, ?_⟩
      cases c2 : decide (p1.1 + s1.1 ≤ p2.1) with
      | true =>
        rw [c2, Bool.true_or] at q
        exact iteT q
      | false =>
        rw [c2, Bool.false_or] at q
        refine iteF ?_
        refine ⟨_, rfl, c, _, 1, _, rfl, rfl, hc, rfl, _, rfl, d, _, 1, _, rfl, rfl, hd, rfl, _, rfl, b, _, 1, _, rfl, rfl, hb, rfl, _, _, rfl, rfl, _, _, rfl, rfl, _, rfl, ?_⟩
        cases c3 : decide (p2.2 + s2.2 ≤ p1.2) with
        | true =>
          rw [c3, Bool.true_or] at q
          exact iteT q
        | false =>
          rw [c3, Bool.false_or] at q
          exact iteF ⟨_, rfl, d, _, 1, _, rfl, rfl, hd, rfl, _, rfl, c, _, 1, _, rfl, rfl, hc, rfl, _, rfl, a, _, 1, _, rfl, rfl, ha, rfl, _, _, rfl, rfl, _, _, rfl, rfl, q⟩
def spShownP (K : PySem.W.Frag) : Sp := fun vs H Q _ => ∃ (sv pv' : V) (ss ps : List II), vs = [sv, pv'] ∧ Dp K H sv (encPs ss) ∧ Dp K H pv' (encPs ps) ∧ ss.length ≤ ps.length ∧ ss.length ≤ 1000000 ∧ Q (.bl (okPic ss ps)) H
theorem ok_law_shown_parts (T : Txt K mg) : CalX P w K mg base CX0 2 "_law_shown_parts" (spShownP K) := by
  obtain ⟨fd, F⟩ := T.d__law_shown_parts
  have sc : FnScope ["_law_sizes", "_law_places", "_law_at", "_law_to"] ["_law_sizes", "_law_places"] (defScope (top 51)) := C8.fnScope_by (by decide +kernel)
  refine mk_cal0 ["_law_sizes", "_law_places", "_law_at", "_law_to"] ["_law_sizes", "_law_places"] F T.g__law_shown_parts sc (fun _ _ _ _ _ _ us hl => match us, hl with | [_, _], _ => rfl) (fun vs H Q E h => ?_) (fun cdv A outer s H vs Q E hr h => ⟨_,
      pss_cons (ps_for PassesOwn.never rfl (pi_range1 rfl T.f_range (pa_cons (pe_callB call_len rfl T.f_len boot_len (pa_cons (pv 0) pa_nil)) pa_nil)) (pg_name (i := 2) sc.nd rfl (Or.inl rfl))
        (pss_one (ps_for PassesOwn.never rfl (pi_range1 rfl T.f_range (pa_cons (pv 2) pa_nil)) (pg_name (i := 3) sc.nd rfl (Or.inl rfl))
          (pss_one (ps_if (pt_not (pt_val (pe_0 (ok_law_lie_apart T) hr (by decide) rfl (pa_cons (pe_ix ix_tup (pv 0) (pv 2) (fun _ _ => rfl)) (pa_cons (pe_ix ix_tup (pv 0) (pv 3) (fun _ _ => rfl)) (pa_cons (pe_ix ix_tup (pv 1) (pv 2) (fun _ _ => rfl)) (pa_cons (pe_ix ix_tup (pv 1) (pv 3) (fun _ _ => rfl)) pa_nil)))))))
            (pss_one (ps_ret pe_bl)) pss_nil)))))
      (pss_one (ps_ret pe_bl)), ?_⟩)
  · obtain ⟨sv, pv', ss, ps, rfl, _⟩ := h; rfl
  · obtain ⟨sv, pv', ss, ps, rfl, hs, hp, hl, hz, q⟩ := h
    obtain ⟨sa, xs, rfl, hsa, hxs⟩ := dp_tup hs
    obtain ⟨pa, ys, rfl, hpa, hys⟩ := dp_tup hp
    have hxl : xs.length = ss.length := by rw [dpAll_len hxs, List.length_map]
    refine ⟨_, rfl, _, xs.length, rfl, .inr ⟨xs, hsa, rfl⟩, _, rfl, by omega, by omega, for_range (lo := 0) (n := (xs.length : Int).toNat) (fun k σ H' => ∃ o2 o3, σ = [some (.ref sa), some (.ref pa), o2, o3] ∧ H' = H ∧ ∀ j i, i < j → j < k → apart (at2 ss j) (at2 ss i) (at2 ps j) (at2 ps i) = true) ?_ ?_ ?_⟩
    · exact ⟨none, none, rfl, rfl, fun j i _ hj => absurd hj (by omega)⟩
    · rintro k σ H1 hk ⟨o2, o3, rfl, rfl, hok⟩
      have hk' : k < ss.length := by omega
      have e0 : (0 : Int) + (k : Int) = (k : Int) := by omega
      rw [e0]
      refine ⟨_, rfl, _, rfl, by omega, by omega, for_range (lo := 0) (n := (k : Int).toNat) (fun m σ H' => ∃ o3, σ = [some (.ref sa), some (.ref pa), some (.int k), o3] ∧ H' = H1 ∧ ∀ i, i < m → apart (at2 ss k) (at2 ss i) (at2 ps k) (at2 ps i) = true) ?_ ?_ ?_⟩
      · exact ⟨o3, rfl, rfl, fun i hi => absurd hi (by omega)⟩
      · rintro m σ H2 hm ⟨o3, rfl, rfl, hok2⟩
        have hm' : m < ss.length := by omega
        have e1 : (0 : Int) + (m : Int) = (m : Int) := by omega
        rw [e1]
        obtain ⟨b1, f1, g1⟩ := encPs_at hxs (at2_get hk')
        obtain ⟨b2, f2, g2⟩ := encPs_at hxs (at2_get hm')
        obtain ⟨b3, f3, g3⟩ := encPs_at hys (at2_get (show k < ps.length by omega))
        obtain ⟨b4, f4, g4⟩ := encPs_at hys (at2_get (show m < ps.length by omega))
        refine ⟨_, rfl, _, rfl, sa, xs, _, _, rfl, rfl, hsa, atI_nat f1, _, rfl, _, rfl, sa, xs, _, _, rfl, rfl, hsa, atI_nat f2, _, rfl, _, rfl, pa, ys, _, _, rfl, rfl, hpa, atI_nat f3, _, rfl, _, rfl, pa, ys, _, _, rfl, rfl, hpa, atI_nat f4, b1, b2, b3, b4, at2 ss k, at2 ss m, at2 ps k, at2 ps m, rfl, g1, g2, g3, g4, _, rfl, ?_⟩
        cases c : apart (at2 ss k) (at2 ss m) (at2 ps k) (at2 ps m) with
        | true =>
          refine iteF ⟨_, rfl, rfl, fun i hi => ?_⟩
          by_cases e : i = m
          · subst e; exact c
          · exact hok2 i (by omega)
        | false =>
          refine iteT ?_
          have : okPic ss ps = false := by
            cases q2 : okPic ss ps with
            | false => rfl
            | true =>
              have := okPic_iff.mp q2 k m (by omega) hk'
              rw [c] at this
              cases this
          rw [this] at q
          exact q
      · rintro σ H2 ⟨o3, rfl, rfl, hok2⟩
        refine ⟨_, _, rfl, rfl, fun j i hi hj => ?_⟩
        by_cases e : j = k
        · subst e; exact hok2 i (by omega)
        · exact hok j i hi (by omega)
    · rintro σ H1 ⟨o2, o3, rfl, rfl, hok⟩
      have : okPic ss ps = true := okPic_iff.mpr fun j i hi hj => hok j i hi (by omega)
      rw [this] at q
      exact q
/-! ### _law_closed_lines -/
def textOf (ls : List Str) : Str := Txt.join Str.empty (ls.map fun l => l ++ sNl)
theorem textOf_len (ls : List Str) : (textOf ls).length ≤ tot ls := join_closed ls
def spClosed (K : PySem.W.Frag) : Sp := fun vs H Q _ => ∃ (l : Addr) (ls : List Str), vs = [.ref l] ∧ SqL K H l (ls.map V.str) ∧ tot ls ≤ 1000000 ∧ ∀ H', Same H H' → Q (.str (textOf ls)) H'
theorem ok_law_closed_lines (T : Txt K mg) : CalX P w K mg base CX0 1 "_law_closed_lines" (spClosed K) := by
  obtain ⟨fd, F⟩ := T.d__law_closed_lines
  have sc : FnScope ["_law_lines", "_law_line"] ["_law_lines"] (defScope (top 55)) := C8.fnScope_by (by decide +kernel)
  refine mk_cal0 ["_law_lines", "_law_line"] ["_law_lines"] F T.g__law_closed_lines sc (fun _ _ _ _ _ _ us hl => match us, hl with | [_], _ => rfl) (fun vs H Q E h => ?_) (fun cdv A outer s H vs Q E hr h => ⟨_,
      pss_one (ps_ret (pe_join pe_str (pe_lc (own := [("_law_line", 1)]) (g := gName 1) (tt := tYes) rfl sc.nd (pi_list (pv 0)) (blkOk_by (own := [("_law_line", 1)]) (N := ["_law_lines", "_law_line"]) (sc := defScope (top 55)) (by decide +kernel))
        (fun _ _ _ _ _ => pg_name (i := 1) sc.nd rfl (Or.inl rfl)) (fun _ _ _ _ _ => pts_nil) (fun _ _ _ _ _ => pe_op op_add_str (pv 1) pe_str)))), ?_⟩)
  · obtain ⟨l, ls, rfl, _⟩ := h; rfl
  · obtain ⟨l, ls, rfl, hl, ht, q⟩ := h
    have hn : ls.length ≤ 1000000 := Nat.le_trans (tot_len ls) ht
    refine ⟨⟨_, rfl⟩, _, rfl, l, rfl, ⟨_, hl⟩, fun D hD => lc_dp (K := K) (walk_list (K := K) (a := l) (xs := ls.map V.str)) ((ls.map fun x => x ++ sNl).map PyData.str) (by simp) (le_line (by rw [List.length_map]; exact hn)) hD (fun H1 h1 => sqL_ext (same_extN (h1.trans (del_sub _ _))) hl) yAt_same (fun i y H1 H2 d Qc hd h1 hacc hY hQ => ?_) (fun H1 ys h1 hD2 hds => ?_)⟩
    · obtain ⟨rfl, hy⟩ := hY
      have hy' : (ls.map V.str)[i]? = some y := hy
      rw [List.getElem?_map] at hy'
      rw [List.getElem?_map, List.getElem?_map] at hd
      cases e : ls[i]? with
      | none => rw [e] at hy'; cases hy'
      | some x =>
        rw [e] at hy' hd
        cases hy'
        cases hd
        have := tot_mem (List.mem_of_getElem? e)
        exact ⟨rfl, _, rfl, x, "\n", rfl, rfl, le_line (by show x.length + 1 ≤ 1000000; omega), hQ _ _ (Same.refl _) (.str _)⟩
    · cases dpAll_strs hds
      refine ⟨Str.empty, D, ls.map fun x => x ++ sNl, by decide +kernel, rfl, .inl (SqL.of hD2), ?_, q H1 (h1.trans (del_sub _ _))⟩
      rw [closed_tot, show Str.empty.length = 0 from rfl]
      omega
end
end K45

namespace K45
open PySem PySem.Spec PyProof.Rows L2
theorem inV_strs (w0 : Str) : ∀ wls : List Str, inV (.str w0) (wls.map V.str) = decide (w0 ∈ wls)
  | [] => by rw [decide_eq_false (by simp)]; rfl
  | a :: l => by
    have e : inV (.str w0) ((a :: l).map V.str) = ((a == w0) || inV (.str w0) (l.map V.str)) := rfl
    rw [e, inV_strs w0 l]
    by_cases h : a = w0
    · subst h
      rw [decide_eq_true List.mem_cons_self, beq_self_eq_true, Bool.true_or]
    · rw [beq_eq_false_iff_ne.mpr h, Bool.false_or]
      by_cases h2 : w0 ∈ l
      · rw [decide_eq_true h2, decide_eq_true (List.mem_cons_of_mem _ h2)]
      · rw [decide_eq_false h2, decide_eq_false fun z => (List.mem_cons.mp z).elim (fun q => h q.symm) h2]
def numV (s : Str) : V := if wordB s = true then .int (wordN s) else .non
def numD (s : Str) : PyData := if wordB s = true then .int (wordN s) else .none
theorem numD_V {K : PySem.W.Frag} {H : Hp} : ∀ {ws : List Str} {vs : List V}, DpAll K H vs (ws.map numD) → vs = ws.map numV
  | [], _, h => by cases h; rfl
  | s :: ws, _, h => by
    cases h with
    | cons a b =>
      rw [numD_V b, List.map_cons]
      unfold numD at a
      unfold numV
      cases c : wordB s with
      | true =>
        rw [c, if_pos rfl] at a
        rw [if_pos rfl, dp_int a]
      | false =>
        rw [c, if_neg Bool.false_ne_true] at a
        rw [if_neg Bool.false_ne_true, dp_non a]
theorem numV_flat : ∀ ws : List Str, (ws.map numV).all flatV = true
  | [] => rfl
  | s :: ws => by
    rw [List.map_cons, List.all_cons, numV_flat ws]
    unfold numV
    cases wordB s <;> rfl
theorem numV_in : ∀ ws : List Str, inV .non (ws.map numV) = !ws.all wordB
  | [] => rfl
  | s :: ws => by
    have e : inV .non ((s :: ws).map numV) = (eqV (numV s) .non || inV .non (ws.map numV)) := rfl
    rw [e, numV_in ws, List.all_cons]
    unfold numV
    cases wordB s with
    | true => rw [if_pos rfl, Bool.true_and]; rfl
    | false => rw [if_neg Bool.false_ne_true]; rfl
theorem numV_ints : ∀ {ws : List Str}, ws.all wordB = true → ws.map numV = (ws.map wordN).map V.int
  | [], _ => rfl
  | s :: ws, h => by
    rw [List.all_cons, Bool.and_eq_true] at h
    rw [List.map_cons, List.map_cons, List.map_cons, numV_ints h.2]
    unfold numV
    rw [h.1, if_pos rfl]
theorem at_name {i : Nat} {v : V} {σ : L2.St} {H : Hp} {Q : L2.St → Hp → Prop} (h : Q (σ.set i (some v)) H) : gName i v σ H Q := h
def manyV : Option Nat → V
  | none => .non
  | some m => .int m
theorem nat_dec {a b : Nat} {i j : Int} (hi : i = a) (hj : j = b) : decide (i ≤ j) = decide (a ≤ b) := by
  by_cases h : a ≤ b
  · rw [decide_eq_true h, decide_eq_true (by omega)]
  · rw [decide_eq_false h, decide_eq_false (by omega)]
section
variable {P : Program} {w : World} {K : PySem.W.Frag} {mg : Str → Option Value} {base : Heap}
/-! ### _law_number -/
def spLNum : Sp := fun vs H Q _ => ∃ s : Str, vs = [.str s, .bl true] ∧ s.length ≤ 1000000 ∧ ∀ H', Same H H' → Q (numV s) H'
theorem ok_law_number (T : Txt K mg) : CalX P w K mg base CX0 1 "_law_number" spLNum := by
  obtain ⟨fd, F⟩ := T.d__law_number
  have sc : FnScope ["_law_word", "_law_is_signed", "_law_digits", "_law_sign"] ["_law_word", "_law_is_signed"] (defScope (top 54)) := C8.fnScope_by (by decide +kernel)
  refine mk_cal0 ["_law_word", "_law_is_signed", "_law_digits", "_law_sign"] ["_law_word", "_law_is_signed"] F T.g__law_number sc (fun _ _ _ _ _ _ us hl => match us, hl with | [_, _], _ => rfl) (fun vs H Q E h => ?_) (fun cdv A outer s H vs Q E hr h => ⟨_,
      pss_cons (ps_set (i := 2) sc.nd rfl (Or.inl rfl) (pe_ifExp (PW.pt (pw_and (pt_val (pv 1)) (pw_and1 (pt_cmpR op_eq (pe_slice sl_str (pv 0) po_none (po_some pe_int)) pe_str (nomark _)))))
        (pe_slice sl_str (pv 0) (po_some pe_int) po_none) (pv 0)))
      (pss_cons (ps_if (PW.pt (pw_or (pt_not (pt_chain op_le op_le pe_int (pe_callB call_len rfl T.f_len boot_len (pa_cons (pv 2) pa_nil)) pe_int))
          (pw_or1 (pt_not (pt_val (pe_callB (cr_all rfl) rfl T.f_all (by decide +kernel) (pa_cons (pe_lc (own := [("_law_sign", 3)]) (g := gName 3) (tt := tYes) rfl sc.nd (pi_str (pv 2)) (blkOk_by (own := [("_law_sign", 3)]) (N := ["_law_word", "_law_is_signed", "_law_digits", "_law_sign"]) (sc := defScope (top 54)) (by decide +kernel))
            (fun _ _ _ _ _ => pg_name (i := 3) sc.nd rfl (Or.inl rfl)) (fun _ _ _ _ _ => pts_nil) (fun _ _ _ _ _ => pe_cmpR op_in_sign (pv 3) pe_str rfl)) pa_nil)))))))
        (pss_one (ps_ret pe_non)) pss_nil)
      (pss_cons (ps_if (PW.pt (pw_and (pt_cmpR op_eq (pe_ix ix_str (pv 2) pe_int (fun _ _ => rfl)) pe_str (nomark _)) (pw_and1 (pt_cmpR op_ne (pv 0) pe_str (nomark _)))))
        (pss_one (ps_ret pe_non)) pss_nil)
      (pss_one (ps_ret (pe_callTy call_int_str rfl T.f_int (by decide +kernel) (pa_cons (pv 0) pa_nil)))))), ?_⟩)
  · obtain ⟨s, rfl, _⟩ := h; rfl
  · obtain ⟨s, rfl, hs, q⟩ := h
    have hl := le_line hs
    refine seq_by (fun σ' H' => ∃ dg : Str, σ' = [some (.str s), some (.bl true), some (.str dg), none] ∧ H' = H ∧ TL.tl dg = lawD (TL.tl s) ∧ dg.length ≤ s.length) ?_ ?_
    · rintro σ' H1 ⟨dg, rfl, rfl, ed, hdl⟩
      have hdl2 : dg.length ≤ sizeLine := Nat.le_trans hdl hl
      have hL := len_tl' dg
      have good : lawL (TL.tl s) = true → ∀ H', Same H1 H' → Q (.int (wordN s)) H' := fun e H' S => by
        have e2 : wordB s = true := by unfold wordB; rw [← lawL_eq]; exact e
        have := q H' S
        unfold numV at this
        rw [if_pos e2] at this
        exact this
      have bad : lawL (TL.tl s) = false → ∀ H', Same H1 H' → Q .non H' := fun e H' S => by
        have e2 : wordB s = false := by unfold wordB; rw [← lawL_eq]; exact e
        have := q H' S
        unfold numV at this
        rw [e2, if_neg Bool.false_ne_true] at this
        exact this
      have fin : lawL (TL.tl s) = ((decide ((1 : Int) ≤ (dg.length : Int)) && decide ((dg.length : Int) ≤ 9) && (TL.tl dg).all isDig) && !(decide ((TL.tl dg).head? = some 48) && !decide (TL.tl s = [48]))) := by
        unfold lawL
        rw [← ed, hL, nat_dec (i := 1) (j := (dg.length : Int)) (a := 1) (b := dg.length) rfl rfl, nat_dec (i := (dg.length : Int)) (j := 9) (a := dg.length) (b := 9) rfl rfl]
      refine ⟨_, rfl, _, dg.length, rfl, ⟨hdl2, rfl⟩, _, _, rfl, rfl, _, rfl, ?_⟩
      by_cases c1 : (1 : Int) ≤ (dg.length : Int)
      · rw [decide_eq_true c1]
        refine iteT ⟨_, _, rfl, rfl, _, rfl, ?_⟩
        rw [decide_eq_true c1, Bool.true_and] at fin
        by_cases c2 : (dg.length : Int) ≤ 9
        · rw [decide_eq_true c2, Bool.true_and] at fin
          rw [decide_eq_true c2]
          refine iteF ⟨_, rfl, dg, rfl, fun D hD => lc_dp (K := K) (walk_str (z := dg)) ((TL.tl dg).map fun c => PyData.bool (isDig c)) (by rw [List.length_map]; rfl) (by show dg.length ≤ sizeLine; exact hdl2) hD (fun _ _ => trivial) yStr_same (fun i x H1 H2 d Qc hd h3 ha hY hQ => ?_) (fun H2 ys h3 hD2 hds => ?_)⟩
          · obtain ⟨rfl, c, hc, rfl⟩ := hY
            refine ⟨rfl, _, rfl, c, _, rfl, rfl, ?_⟩
            rw [dig_in]
            refine hQ _ _ (Same.refl _) ?_
            rw [List.getElem?_map] at hd
            have hc' : (TL.tl dg)[i]? = some c := by rw [← hc]; exact Array.getElem?_toList
            rw [hc'] at hd
            cases hd
            exact .bl _
          · have e2 := dpAll_bls (ns := (TL.tl dg).map isDig) (by rw [List.map_map]; exact hds)
            subst e2
            have S1 := h3.trans (del_sub _ _)
            refine ⟨D, _, rfl, SqL.of hD2, _, rfl, ?_⟩
            have e3 : ((TL.tl dg).map isDig).all id = (TL.tl dg).all isDig := by rw [List.all_map]; rfl
            rw [e3]
            cases c3 : (TL.tl dg).all isDig with
            | false =>
              rw [c3, Bool.false_and] at fin
              exact iteT (bad fin H2 S1)
            | true =>
              rw [c3, Bool.true_and] at fin
              refine iteF ?_
              cases e : TL.tl dg with
              | nil =>
                rw [e] at hL
                simp at hL
                omega
              | cons a r =>
                refine ⟨_, rfl, dg, 0, a, rfl, rfl, hdl2, atI_nat (j := 0) (by show (TL.tl dg)[0]? = _; rw [e]; rfl), rfl, _, rfl, ?_⟩
                have e4 : decide (V.str ⟨#[a]⟩ = V.str "0") = decide ((TL.tl dg).head? = some 48) := by
                  rw [str_eq, e]
                  have e5 : TL.tl (("0" : Str)) = [48] := by decide +kernel
                  rw [e5]
                  have e6 : TL.tl (⟨#[a]⟩ : Str) = [a] := rfl
                  rw [e6]
                  by_cases h : a = 48
                  · subst h; rfl
                  · rw [decide_eq_false (fun z => h (List.cons.inj z).1), decide_eq_false (show ¬ List.head? (a :: r) = some 48 from fun z => h (Option.some.inj z))]
                have e5 : (!decide (V.str s = V.str "0")) = !decide (TL.tl s = [48]) := by
                  rw [str_eq]
                  rfl
                have last : lawL (TL.tl s) = true → _ := fun z => good z H2 S1
                rw [e4]
                cases c4 : decide ((TL.tl dg).head? = some 48) with
                | true =>
                  rw [c4, Bool.true_and] at fin
                  refine iteT ⟨_, rfl, rfl, _, rfl, ?_⟩
                  rw [e5]
                  cases c5 : !decide (TL.tl s = [48]) with
                  | true =>
                    rw [c5] at fin
                    exact iteT (bad fin H2 S1)
                  | false =>
                    rw [c5] at fin
                    have wb : wordB s = true := by unfold wordB; rw [← lawL_eq]; exact fin
                    obtain ⟨k1, k2⟩ := word_int wb
                    exact iteF ⟨_, rfl, s, _, rfl, k1, by omega, good fin H2 S1⟩
                | false =>
                  rw [c4, Bool.false_and] at fin
                  have wb : wordB s = true := by unfold wordB; rw [← lawL_eq]; exact fin
                  obtain ⟨k1, k2⟩ := word_int wb
                  exact iteF (iteF ⟨_, rfl, s, _, rfl, k1, by omega, good fin H2 S1⟩)
        · rw [decide_eq_false c2, Bool.false_and, Bool.false_and] at fin
          rw [decide_eq_false c2]
          exact iteT (bad fin _ (Same.refl _))
      · rw [decide_eq_false c1, Bool.false_and, Bool.false_and, Bool.false_and] at fin
        rw [decide_eq_false c1]
        exact iteF ⟨_, rfl, iteT (bad fin _ (Same.refl _))⟩
    · intro N hN
      refine ⟨_, rfl, _, rfl, iteT ⟨_, rfl, _, rfl, s, rfl, hl, rfl, _, rfl, ?_⟩⟩
      have e1 : decide (V.str (cutS s none (some 1)) = V.str "-") = decide ((TL.tl s).take 1 = [45]) := by
        rw [str_eq, tl_head]
        rfl
      rw [e1]
      by_cases c : (TL.tl s).take 1 = [45]
      · rw [decide_eq_true c]
        refine iteT ⟨_, rfl, _, rfl, s, rfl, hl, hN _ _ ⟨_, rfl, rfl, ?_, cut_len s⟩⟩
        unfold lawD
        rw [if_pos c]
        exact tl_rest s
      · rw [decide_eq_false c]
        refine iteF ⟨_, rfl, hN _ _ ⟨s, rfl, rfl, ?_, Nat.le_refl _⟩⟩
        unfold lawD
        rw [if_neg c]
/-! ### _law_read_lines -/
def spReadL (K : PySem.W.Frag) : Sp := fun vs H Q _ => ∃ (text : Str) (wl : Addr) (wls : List Str) (many : Option Nat), vs = [.str text, .ref wl, manyV many] ∧ text.length ≤ 900000 ∧ SqL K H wl (wls.map V.str) ∧
  (∀ n : Nat, reads (rowOf wls many) (linesOf text) = .inl n → ∀ H' t, Same H H' → SqT K H' t [.str "line", .int n] → Q (.ref t) H') ∧
  (∀ rows, reads (rowOf wls many) (linesOf text) = .inr rows → ∀ H' t l ys, Same H H' → SqT K H' t [.str "rows", .ref l] → SqL K H' l ys → DpAll K H' ys (rows.map encR) → Q (.ref t) H')
theorem ok_law_read_lines (T : Txt K mg) : CalX P w K mg base CX0 2 "_law_read_lines" (spReadL K) := by
  obtain ⟨fd, F⟩ := T.d__law_read_lines
  have sc : FnScope ["_law_text", "_law_words_let", "_law_many", "_law_lines", "_law_found", "_law_at", "_law_words", "_law_numbers", "_law_is_right", "_law_word"] ["_law_text", "_law_words_let", "_law_many"] (defScope (top 56)) := C8.fnScope_by (by decide +kernel)
  refine mk_cal0 ["_law_text", "_law_words_let", "_law_many", "_law_lines", "_law_found", "_law_at", "_law_words", "_law_numbers", "_law_is_right", "_law_word"] ["_law_text", "_law_words_let", "_law_many"] F T.g__law_read_lines sc (fun _ _ _ _ _ _ us hl => match us, hl with | [_, _, _], _ => rfl) (fun vs H Q E h => ?_) (fun cdv A outer s H vs Q E hr h => ⟨_,
      pss_cons (ps_par (i := 3) (j := 4) rfl sc.nd rfl rfl (by decide) rfl rfl (pa_cons (pe_split (pv 0) pe_str) (pa_cons (pe_lst pa_nil) pa_nil)) rfl)
      (pss_cons (ps_for PassesOwn.never rfl (pi_range1 rfl T.f_range (pa_cons (pe_op op_sub (pe_callB call_len rfl T.f_len boot_len (pa_cons (pv 3) pa_nil)) pe_int) pa_nil)) (pg_name (i := 5) sc.nd rfl (Or.inl rfl))
        (pss_cons (ps_set (i := 6) sc.nd rfl (Or.inl rfl) (pe_split (pe_ix ix_list (pv 3) (pv 5) (fun _ _ => rfl)) pe_str))
        (pss_cons (ps_set (i := 7) sc.nd rfl (Or.inl rfl) (pe_callTy call_tuple_of rfl T.f_tuple (by decide +kernel) (pa_cons
          (pe_lc (own := [("_law_word", 9)]) (g := gName 9) (tt := tYes) rfl sc.nd (pi_list (pe_slice sl_list (pv 6) (po_some pe_int) po_none)) (blkOk_by (own := [("_law_word", 9)]) (N := ["_law_text", "_law_words_let", "_law_many", "_law_lines", "_law_found", "_law_at", "_law_words", "_law_numbers", "_law_is_right", "_law_word"]) (sc := defScope (top 56)) (by decide +kernel))
            (fun _ _ _ _ _ => pg_name (i := 9) sc.nd rfl (Or.inl rfl)) (fun _ _ _ _ _ => pts_nil) (fun _ _ _ _ _ => pe_0 (ok_law_number T) hr (by decide) rfl (pa_cons (pv 9) (pa_cons pe_bl pa_nil)))) pa_nil)))
        (pss_cons (ps_set (i := 8) sc.nd rfl (Or.inl rfl) (pe_and (pe_cmpR op_in_seq (pe_ix ix_list (pv 6) pe_int (fun _ _ => rfl)) (pv 1) rfl) (pe_and (pe_cmpR op_notIn_seq pe_non (pv 7) rfl)
          (pe_one (pe_cmpR op_gt (pe_callB call_len rfl T.f_len boot_len (pa_cons (pv 7) pa_nil)) pe_int (nomark _))))))
        (pss_cons (ps_if (PW.pt (pw_or (pt_not (pt_val (pv 8))) (pw_or1 (PW.pt (pw_and (pt_cmpR op_notN (pv 2) pe_non (nomark _)) (pw_and1 (pt_cmpR op_ne (pe_callB call_len rfl T.f_len boot_len (pa_cons (pv 7) pa_nil)) (pv 2) (nomark _))))))))
          (pss_one (ps_ret (pe_tup (pa_cons pe_str (pa_cons (pe_op op_add (pv 5) pe_int) pa_nil))))) pss_nil)
        (pss_one (ps_expr (pe_bm PySem.F.plainAttrs_list PySem.F.slot_list_append PySem.F.type_list_append mt_append (pv 4) (pa_cons (pe_tup (pa_cons (pe_ix ix_list (pv 6) pe_int (fun _ _ => rfl)) (pa_cons (pv 7) pa_nil))) pa_nil)))))))))
      (pss_one (ps_ret (pe_ifExp (pt_cmpR op_ne (pe_ix ix_list (pv 3) (pe_un un_neg pe_int) (fun _ _ => rfl)) pe_str (nomark _))
        (pe_tup (pa_cons pe_str (pa_cons (pe_callB call_len rfl T.f_len boot_len (pa_cons (pv 3) pa_nil)) pa_nil))) (pe_tup (pa_cons pe_str (pa_cons (pv 4) pa_nil))))))), ?_⟩)
  · obtain ⟨text, wl, wls, many, rfl, _⟩ := h; rfl
  · obtain ⟨text, wl, wls, many, rfl, hl, hwl, qe, q⟩ := h
    refine ⟨_, rfl, ⟨_, rfl⟩, text, "\n", rfl, rfl, rfl, by rw [sizeLine_eq]; omega, fun pl hpl => ?_⟩
    have eL : Txt.split text "\n" = linesOf text := rfl
    rw [eL]
    refine ⟨Nat.zero_le _, fun pf hpf => ?_⟩
    have hlf : pl ≠ pf := ne_of_none upd_same hpf
    have hpf0 : H pf = none := by rw [upd_ne (Ne.symm hlf)] at hpf; exact hpf
    have SL := same_upd (o := .lst ((linesOf text).map V.str)) hpl
    have S0 : Same H (upd (upd H pl (.lst ((linesOf text).map V.str))) pf (.lst [])) := SL.trans (same_upd (o := .lst []) hpf)
    have tl1 := lines_tot text
    have nl1 : (linesOf text).length ≤ text.length + 1 := by have := tot_len (linesOf text); omega
    refine ⟨_, _, rfl, ?_⟩
    have hdl : (linesOf text).dropLast.length = (linesOf text).length - 1 := List.length_dropLast
    have hpos : 0 < (linesOf text).length := List.length_pos_iff.mpr (lines_ne text)
    refine ⟨_, rfl, _, _, rfl, .inl ⟨_, SqL.of (same_upd hpf _ _ upd_same), rfl⟩, _, _, rfl, rfl, _, rfl, by rw [List.length_map]; omega, by rw [List.length_map]; omega, for_range (lo := 0) (n := ((((linesOf text).map V.str).length : Int) - 1).toNat)
      (fun i σ H' => ∃ o5 o6 o7 o8 o9, σ = [some (.str text), some (.ref wl), some (manyV many), some (.ref pl), some (.ref pf), o5, o6, o7, o8, o9] ∧
        Same (del (upd (upd H pl (.lst ((linesOf text).map V.str))) pf (.lst [])) pf) (del H' pf) ∧
        (∀ j l', j < i → (linesOf text).dropLast[j]? = some l' → rowOf wls many l' ≠ none) ∧ ∃ ys, H' pf = some (.lst ys) ∧ DpAll K (del H' pf) ys ((((linesOf text).dropLast.take i).filterMap (rowOf wls many)).map encR)) ?_ ?_ ?_⟩
    · exact ⟨none, none, none, none, none, rfl, Same.refl _, fun j l' hj => absurd hj (by omega), [], upd_same, .nil⟩
    · rintro i σ H1 hi ⟨o5, o6, o7, o8, o9, rfl, S1, hok, ys, hys, hds⟩
      rw [List.length_map] at hi
      have e0 : (0 : Int) + (i : Int) = (i : Int) := by omega
      rw [e0]
      have hi' : i < (linesOf text).dropLast.length := by omega
      have el : (linesOf text).dropLast[i]? = some ((linesOf text).dropLast[i]) := List.getElem?_eq_getElem hi'
      have el2 : (linesOf text)[i]? = some ((linesOf text).dropLast[i]) := by
        rw [List.getElem_dropLast]
        exact List.getElem?_eq_getElem (by omega)
      generalize (linesOf text).dropLast[i] = line at el el2
      have hline : line.length ≤ 900000 := by
        have := tot_mem (List.mem_of_getElem? el2)
        omega
      have SH : ∀ {Hx}, Same H1 Hx → Same (del (upd (upd H pl (.lst ((linesOf text).map V.str))) pf (.lst [])) pf) (del Hx pf) := fun hx => S1.trans (same_del pf hx)
      have S00 : ∀ {Hx}, Same H1 Hx → Same H Hx := fun hx => (same_to_del S0 hpf0).trans ((SH hx).trans (del_sub _ _))
      have hl1 : H1 pl = some (.lst ((linesOf text).map V.str)) := del_sub _ _ _ _ (S1 _ _ (by rw [del_ne hlf]; exact same_upd hpf _ _ upd_same))
      obtain ⟨w0, ws, e, hw, hn⟩ := head_words (line := line)
      have er := rowOf_eq (wl := wls) (many := many) e
      refine ⟨_, rfl, _, rfl, pl, _, _, _, rfl, rfl, SqL.of hl1, atI_nat (j := i) (by rw [List.getElem?_map, el2]; rfl), ⟨_, rfl⟩, line, " ", rfl, rfl, rfl, by rw [sizeLine_eq]; omega, fun p hp => ?_⟩
      have e' : Txt.split line " " = w0 :: ws := e
      rw [e']
      have hL : SqL K (upd H1 p (.lst ((w0 :: ws).map V.str))) p ((w0 :: ws).map V.str) := SqL.of upd_same
      have T1 : Same H1 (upd H1 p (.lst ((w0 :: ws).map V.str))) := same_upd hp
      refine ⟨_, rfl, _, rfl, p, _, rfl, hL, fun p2 hp2 => ?_⟩
      rw [cutV_tail]
      have T2 := T1.trans (same_upd (o := .lst ((w0 :: ws).map V.str).tail) hp2)
      have hL2 := sqL_ext (same_extN (same_upd (o := .lst ((w0 :: ws).map V.str).tail) hp2)) hL
      have hP2 : (upd (upd H1 p (.lst ((w0 :: ws).map V.str))) p2 (.lst ((w0 :: ws).map V.str).tail)) p2 = some (.lst (ws.map V.str)) := upd_same
      generalize upd (upd H1 p (.lst ((w0 :: ws).map V.str))) p2 (.lst ((w0 :: ws).map V.str).tail) = H2 at *
      simp only [List.length_cons] at hn
      refine ⟨p2, rfl, ⟨_, SqL.of hP2⟩, fun D hD => lc_dp (K := K) (walk_list (K := K) (a := p2) (xs := ws.map V.str)) (ws.map numD) (by simp) (le_line (by rw [List.length_map]; omega)) hD (fun H3 h3 => SqL.of (del_sub _ _ _ _ (h3 _ _ hP2))) yAt_same (fun k y H3 H4 d Qc hd h3 hacc hY hQ => ?_) (fun H3 zs h3 hD3 hds3 => ?_)⟩
      · obtain ⟨rfl, hy⟩ := hY
        have hy' : (ws.map V.str)[k]? = some y := hy
        rw [List.getElem?_map] at hy' hd
        cases es : ws[k]? with
        | none => rw [es] at hy'; cases hy'
        | some s =>
          rw [es] at hy' hd
          cases hy'
          cases hd
          refine ⟨rfl, _, rfl, s, rfl, ?_, fun H5 S5 => hQ _ _ S5 ?_⟩
          · have := hw s (List.mem_cons_of_mem _ (List.mem_of_getElem? es))
            omega
          · unfold numV numD
            cases wordB s with
            | true => exact .int _
            | false => exact .non
      · have ez := numD_V hds3
        subst ez
        have T3 := T2.trans (h3.trans (del_sub _ _))
        refine ⟨D, _, rfl, .inl ⟨SqL.of hD3, fun nt hnt => ?_⟩⟩
        have T4 := T3.trans (same_upd (o := .tup (ws.map numV)) hnt)
        have hL4 : SqL K (upd H3 nt (.tup (ws.map numV))) p ((w0 :: ws).map V.str) := sqL_ext (same_extN ((h3.trans (del_sub _ _)).trans (same_upd hnt))) hL2
        have hN4 : (upd H3 nt (.tup (ws.map numV))) nt = some (.tup (ws.map numV)) := upd_same
        have hw4 := sqL_ext (same_extN (S00 T4)) hwl
        have hys4 := T4 _ _ hys
        have hds4 : DpAll K (del (upd H3 nt (.tup (ws.map numV))) pf) ys ((((linesOf text).dropLast.take i).filterMap (rowOf wls many)).map encR) := dpAll_ext (same_del pf T4) hds
        have hntpf : nt ≠ pf := Ne.symm (ne_of_none (T3 _ _ hys) hnt)
        generalize upd H3 nt (.tup (ws.map numV)) = H4 at *
        -- what is read off
        have bad : rowOf wls many line = none → ∀ H5 t, Same H1 H5 → H5 t = none → Q (.ref t) (upd H5 t (.tup [.str "line", .int ((i : Int) + 1)])) := fun hb H5 t S5 ht => by
          have e1 : (i : Int) + 1 = ((i + 1 : Nat) : Int) := by omega
          rw [e1]
          exact qe (i + 1) (reads_bad el hb hok) _ t ((S00 S5).trans (same_upd ht)) (SqT.of upd_same)
        refine at_name ?_
        dsimp only
        refine seq_by (fun σ' H' => σ' = [some (.str text), some (.ref wl), some (manyV many), some (.ref pl), some (.ref pf), some (.int i), some (.ref p), some (.ref nt), some (.bl (decide (w0 ∈ wls) && (ws.all wordB && decide (0 < ws.length)))), o9] ∧ H' = H4) ?_ ?_
        · rintro σ' H' ⟨rfl, rfl⟩
          have app : rowOf wls many line = some (w0, ws.map wordN) → ws.all wordB = true → ∀ t, H' t = none → Same (del (upd (upd H pl (.lst ((linesOf text).map V.str))) pf (.lst [])) pf) (del (upd (upd H' t (.tup [.str w0, .ref nt])) pf (.lst (ys ++ [.ref t]))) pf) ∧
              (∀ j l', j < i + 1 → (linesOf text).dropLast[j]? = some l' → rowOf wls many l' ≠ none) ∧ ∃ ys', (upd (upd H' t (.tup [.str w0, .ref nt])) pf (.lst (ys ++ [.ref t]))) pf = some (.lst ys') ∧
              DpAll K (del (upd (upd H' t (.tup [.str w0, .ref nt])) pf (.lst (ys ++ [.ref t]))) pf) ys' ((((linesOf text).dropLast.take (i + 1)).filterMap (rowOf wls many)).map encR) := fun hr hall t ht => by
            have htpf : t ≠ pf := Ne.symm (ne_of_none hys4 ht)
            have T5 := T4.trans (same_upd (o := .tup [.str w0, .ref nt]) ht)
            refine ⟨by rw [del_upd (H := upd H' t (.tup [.str w0, .ref nt]))]; exact SH T5, fun j l' hj hs => ?_, _, upd_same, ?_⟩
            · by_cases e : j = i
              · subst e
                rw [el] at hs
                cases hs
                rw [hr]
                exact fun z => by cases z
              · exact hok j l' (by omega) hs
            · rw [del_upd, filter_next el hr, List.map_append]
              refine dpAll_app (dpAll_ext (same_del pf (same_upd ht)) hds4) (.cons ?_ .nil)
              have hnt5 : (del (upd H' t (.tup [.str w0, .ref nt])) pf) nt = some (.tup ((ws.map wordN).map V.int)) := by
                rw [del_ne hntpf, ← numV_ints hall]
                exact same_upd ht _ _ hN4
              have ht5 : (del (upd H' t (.tup [.str w0, .ref nt])) pf) t = some (.tup [.str w0, .ref nt]) := by
                rw [del_ne htpf]; exact upd_same
              exact .tup (SqT.of ht5) (.cons (.str _) (.cons (.tup (SqT.of hnt5) (ints_dpAll _)) .nil))
          have yl : ys.length < sizeLine := by
            rw [dpAll_len hds4, List.length_map]
            have h1 : (((linesOf text).dropLast.take i).filterMap (rowOf wls many)).length ≤ ((linesOf text).dropLast.take i).length := List.length_filterMap_le _ _
            have h2 : ((linesOf text).dropLast.take i).length ≤ i := by rw [List.length_take]; omega
            rw [sizeLine_eq]
            omega
          have er2 : rowOf wls many line = if ((decide (w0 ∈ wls) && (ws.all wordB && decide (0 < ws.length))) && manyOk many ws.length) = true then some (w0, ws.map wordN) else none := by
            rw [er]
            congr 2
            rw [Bool.and_assoc, Bool.and_assoc]
          have ret : rowOf wls many line = none → ∀ t, H' t = none → Q (.ref t) (upd H' t (.tup [.str "line", .int ((i : Int) + 1)])) := fun z t ht => bad z H' t T4 ht
          have good : (decide (w0 ∈ wls) && (ws.all wordB && decide (0 < ws.length))) = true → ws.all wordB = true := fun z => by
            simp only [Bool.and_eq_true] at z
            exact z.2.1
          refine ⟨_, rfl, _, rfl, ?_⟩
          cases c : (decide (w0 ∈ wls) && (ws.all wordB && decide (0 < ws.length))) with
          | false =>
            rw [c, Bool.false_and, if_neg Bool.false_ne_true] at er2
            exact iteT (iteT ⟨_, rfl, _, _, rfl, rfl, (by show 2 ≤ sizeLine; decide), fun t ht => ret er2 t ht⟩)
          | true =>
            rw [c, Bool.true_and] at er2
            refine iteF ?_
            cases many with
            | none =>
              have er3 : rowOf wls none line = some (w0, ws.map wordN) := by
                rw [er2]; rfl
              refine ⟨_, rfl, rfl, _, rfl, iteF (iteF ?_)⟩
              refine ⟨_, rfl, .inl ⟨rfl, _, .inl (.inl hys4)⟩, _, rfl, p, _, 0, _, rfl, rfl, hL4, atI_nat (j := 0) rfl, _, rfl, (by show 2 ≤ sizeLine; decide), fun t ht => ?_⟩
              exact ⟨pf, ys, _, rfl, rfl, same_upd ht _ _ hys4, yl, _, _, _, _, _, rfl, app er3 (good c) t ht⟩
            | some m =>
              refine ⟨_, rfl, rfl, _, rfl, iteT ⟨_, rfl, _, _, rfl, .inr ⟨_, SqT.of hN4, rfl⟩, _, rfl, rfl, _, rfl, ?_⟩⟩
              have e3 : (!decide (V.int ((ws.map numV).length : Int) = manyV (some m))) = !decide (ws.length = m) := by
                rw [List.length_map]
                by_cases h : ws.length = m
                · subst h; rw [decide_eq_true (show V.int (ws.length : Int) = manyV (some ws.length) from rfl), decide_eq_true (Eq.refl ws.length)]
                · rw [decide_eq_false h, decide_eq_false (show ¬ V.int (ws.length : Int) = manyV (some m) from fun z => h (by have := V.int.inj (show V.int (ws.length : Int) = V.int (m : Int) from z); omega))]
              rw [e3]
              cases c2 : decide (ws.length = m) with
              | false =>
                have er3 : rowOf wls (some m) line = none := by
                  rw [er2]
                  unfold manyOk
                  simp only [c2]
                  rfl
                exact iteT ⟨_, rfl, _, _, rfl, rfl, (by show 2 ≤ sizeLine; decide), fun t ht => ret er3 t ht⟩
              | true =>
                have er3 : rowOf wls (some m) line = some (w0, ws.map wordN) := by
                  rw [er2]
                  unfold manyOk
                  simp only [c2]
                  rfl
                refine iteF ⟨_, rfl, .inl ⟨rfl, _, .inl (.inl hys4)⟩, _, rfl, p, _, 0, _, rfl, rfl, hL4, atI_nat (j := 0) rfl, _, rfl, (by show 2 ≤ sizeLine; decide), fun t ht => ?_⟩
                exact ⟨pf, ys, _, rfl, rfl, same_upd ht _ _ hys4, yl, _, _, _, _, _, rfl, app er3 (good c) t ht⟩
        · intro N hN
          refine ⟨_, rfl, p, _, 0, _, rfl, rfl, hL4, atI_nat (j := 0) rfl, _, rfl, wl, _, rfl, .inl hw4, rfl, ?_, ?_⟩
          · rw [List.all_map]
            exact List.all_eq_true.mpr fun _ _ => rfl
          · rw [if_neg Bool.false_ne_true, inV_strs]
            refine ⟨_, rfl, ?_⟩
            cases c1 : decide (w0 ∈ wls) with
            | false =>
              refine iteF (hN _ _ ⟨?_, rfl⟩)
              rw [c1, Bool.false_and]
              rfl
            | true =>
              refine iteT ⟨_, rfl, nt, _, rfl, .inr (SqT.of hN4), rfl, numV_flat ws, ?_⟩
              rw [if_pos rfl, numV_in, Bool.not_not]
              refine ⟨_, rfl, ?_⟩
              cases c2 : ws.all wordB with
              | false =>
                refine iteF (hN _ _ ⟨?_, rfl⟩)
                rw [c1, c2, Bool.true_and, Bool.false_and]
                rfl
              | true =>
                refine iteT ⟨_, rfl, _, _, rfl, .inr ⟨_, SqT.of hN4, rfl⟩, _, _, rfl, rfl, ?_⟩
                have e3 : decide ((0 : Int) < ((ws.map numV).length : Int)) = decide (0 < ws.length) := by
                  rw [List.length_map]
                  by_cases h : 0 < ws.length
                  · rw [decide_eq_true h, decide_eq_true (by omega)]
                  · rw [decide_eq_false h, decide_eq_false (by omega)]
                refine hN _ _ ⟨?_, rfl⟩
                rw [c1, c2, Bool.true_and, Bool.true_and, ← e3]
                rfl
    · rintro σ H1 ⟨o5, o6, o7, o8, o9, rfl, S1, hok, ys, hys, hds⟩
      rw [List.length_map] at hok hds
      have en : (((linesOf text).length : Int) - 1).toNat = (linesOf text).dropLast.length := by omega
      rw [en] at hok hds
      have S00 : Same H H1 := (same_to_del S0 hpf0).trans (S1.trans (del_sub _ _))
      have hl1 : H1 pl = some (.lst ((linesOf text).map V.str)) := del_sub _ _ _ _ (S1 _ _ (by rw [del_ne hlf]; exact same_upd hpf _ _ upd_same))
      obtain ⟨last, hlast⟩ : ∃ last, (linesOf text).getLast? = some last := by
        cases e : (linesOf text).getLast? with
        | none => exact absurd (List.getLast?_eq_none_iff.mp e) (lines_ne text)
        | some l => exact ⟨l, rfl⟩
      refine ⟨_, rfl, _, rfl, pl, _, -1, .str last, rfl, rfl, SqL.of hl1, atI_end (by rw [List.getLast?_map, hlast]; rfl), rfl, _, rfl, ?_⟩
      by_cases c : last = Str.empty
      · have e1 : (!decide (V.str last = V.str "")) = false := by
          rw [c]
          have : decide (V.str Str.empty = V.str "") = true := by decide +kernel
          rw [this]; rfl
        rw [e1]
        refine iteF ⟨_, rfl, (by show 2 ≤ sizeLine; decide), fun t ht => ?_⟩
        have S2 := same_upd (o := .tup [.str "rows", .ref pf]) ht
        rw [List.take_of_length_le (Nat.le_refl _)] at hds
        exact q _ (reads_ok hok (by rw [hlast, c])) _ t pf ys (S00.trans S2) (SqT.of upd_same) (SqL.of (S2 _ _ hys)) (dpAll_ext ((del_sub _ _).trans S2) hds)
      · have e1 : (!decide (V.str last = V.str "")) = true := by
          have : ¬ V.str last = V.str "" := fun z => c (by
            have e2 : (("" : Str)) = Str.empty := by decide +kernel
            rw [← e2]
            exact V.str.inj z)
          rw [decide_eq_false this]; rfl
        rw [e1]
        refine iteT ⟨_, rfl, _, _, rfl, .inl ⟨_, SqL.of hl1, rfl⟩, (by show 2 ≤ sizeLine; decide), fun t ht => ?_⟩
        rw [List.length_map]
        exact qe _ (reads_last hok (by rw [hlast]; exact fun z => c (Option.some.inj z))) _ t (S00.trans (same_upd ht)) (SqT.of upd_same)
end
end K45

namespace K45
open PySem PySem.Spec PyProof.Rows L2
theorem row_item {K : PySem.W.Frag} {H : Hp} {ys : List V} {rows : List Row} {i : Nat} {x : V} {r : Row} (hys : DpAll K H ys (rows.map encR)) (hx : ys[i]? = some x) (hr : rows[i]? = some r) :
    ∃ a b, x = .ref a ∧ SqT K H a [.str r.1, .ref b] ∧ SqT K H b (r.2.map V.int) := by
  obtain ⟨d, e1, e2⟩ := dpAll_get hys hx
  rw [List.getElem?_map, hr] at e1
  cases e1
  obtain ⟨a, zs, rfl, hz, hzs⟩ := dp_tup e2
  cases hzs with
  | cons h1 hzs =>
    cases hzs with
    | cons h2 hzs =>
      cases hzs
      cases dp_str h1
      obtain ⟨b, us, rfl, hb, hus⟩ := dp_tup h2
      cases dpAll_ints hus
      exact ⟨a, b, rfl, hz, hb⟩
/-- what the law says is due -/
def DueP (K : PySem.W.Frag) (H : Hp) (t : Addr) : PicOut → Prop
  | .line n => SqT K H t [.str "line", .int n]
  | .boxes p => SqT K H t [.str "boxes", .int p]
  | .picture => SqT K H t [.str "picture", .non]
  | .ok ss ps => ∃ u sv pv, SqT K H t [.str "let", .ref u] ∧ SqT K H u [sv, pv] ∧ Dp K H sv (encPs ss) ∧ Dp K H pv (encPs ps) ∧ ss.length ≤ 40 ∧ badPart ss = none
def DueS (K : PySem.W.Frag) (H : Hp) (t : Addr) : ScrOut → Prop
  | .line n => SqT K H t [.str "line", .int n]
  | .script => SqT K H t [.str "script", .non]
  | .ok rows => ∃ v, SqT K H t [.str "let", v] ∧ Dp K H v (.tuple (rows.map encR)) ∧ rows.length ≤ 200
theorem all_two (s : II) : [(decide (1 ≤ s.1) && decide (s.1 ≤ 1000)), (decide (1 ≤ s.2) && decide (s.2 ≤ 1000))].all id = sizeOk s := by
  unfold sizeOk
  simp
section
variable {P : Program} {w : World} {K : PySem.W.Frag} {mg : Str → Option Value} {base : Heap}
def spDueP (K : PySem.W.Frag) : Sp := fun vs H Q _ => ∃ text : Str, vs = [.str text] ∧ text.length ≤ 900000 ∧ ∀ H' t, Same H H' → DueP K H' t (picOut text) → Q (.ref t) H'
theorem ok_law_due_picture (T : Txt K mg) : CalX P w K mg base CX0 3 "_law_due_picture" (spDueP K) := by
  obtain ⟨fd, F⟩ := T.d__law_due_picture
  have sc : FnScope ["_law_text", "_law_kind", "_law_rows", "_law_sizes", "_law_places", "_law_at", "_law_word", "_law_row", "_law_part"] ["_law_text"] (defScope (top 57)) := C8.fnScope_by (by decide +kernel)
  refine mk_cal0 ["_law_text", "_law_kind", "_law_rows", "_law_sizes", "_law_places", "_law_at", "_law_word", "_law_row", "_law_part"] ["_law_text"] F T.g__law_due_picture sc (fun _ _ _ _ _ _ us hl => match us, hl with | [_], _ => rfl) (fun vs H Q E h => ?_) (fun cdv A outer s H vs Q E hr h => ⟨_,
      pss_cons (ps_if (pt_not (pt_val (pe_callB call_isi rfl T.f_isinstance (by decide +kernel) (pa_cons (pv 0) (pa_cons (pe_bltn (v := .ty "str") rfl T.f_str (by decide +kernel) rfl) pa_nil)))))
        (pss_one (ps_ret (pe_tup (pa_cons pe_str (pa_cons pe_int pa_nil))))) pss_nil)
      (pss_cons (ps_asg (pe_0 (ok_law_read_lines T) hr (by decide) rfl (pa_cons (pv 0) (pa_cons (pe_lst (pa_cons pe_str pa_nil)) (pa_cons pe_int pa_nil)))) (pg_tup rfl (pgs_cons (pg_name (i := 1) sc.nd rfl (Or.inl rfl)) (pgs_cons (pg_name (i := 2) sc.nd rfl (Or.inl rfl)) pgs_nil))))
      (pss_cons (ps_if (pt_cmpR op_eq (pv 1) pe_str (nomark _)) (pss_one (ps_ret (pe_tup (pa_cons (pv 1) (pa_cons (pv 2) pa_nil))))) pss_nil)
      (pss_cons (ps_par (i := 3) (j := 4) rfl sc.nd rfl rfl (by decide) rfl rfl (pa_cons
          (pe_callTy call_tuple_of rfl T.f_tuple (by decide +kernel) (pa_cons (pe_lc (own := [("_law_word", 6), ("_law_row", 7)]) (g := gTup K 2 (gCons (gName 6) (gCons (gName 7) gNil))) (tt := tYes) rfl sc.nd (pi_list (pv 2)) (blkOk_by (own := [("_law_word", 6), ("_law_row", 7)]) (N := ["_law_text", "_law_kind", "_law_rows", "_law_sizes", "_law_places", "_law_at", "_law_word", "_law_row", "_law_part"]) (sc := defScope (top 57)) (by decide +kernel))
            (fun _ _ _ _ _ => pg_tup rfl (pgs_cons (pg_name (i := 6) sc.nd rfl (Or.inl rfl)) (pgs_cons (pg_name (i := 7) sc.nd rfl (Or.inl rfl)) pgs_nil))) (fun _ _ _ _ _ => pts_nil) (fun _ _ _ _ _ => pe_slice (show SlR _ (rSlT K) from sl_tup) (pv 7) po_none (po_some pe_int))) pa_nil))
          (pa_cons (pe_callTy call_tuple_of rfl T.f_tuple (by decide +kernel) (pa_cons (pe_lc (own := [("_law_word", 6), ("_law_row", 7)]) (g := gTup K 2 (gCons (gName 6) (gCons (gName 7) gNil))) (tt := tYes) rfl sc.nd (pi_list (pv 2)) (blkOk_by (own := [("_law_word", 6), ("_law_row", 7)]) (N := ["_law_text", "_law_kind", "_law_rows", "_law_sizes", "_law_places", "_law_at", "_law_word", "_law_row", "_law_part"]) (sc := defScope (top 57)) (by decide +kernel))
            (fun _ _ _ _ _ => pg_tup rfl (pgs_cons (pg_name (i := 6) sc.nd rfl (Or.inl rfl)) (pgs_cons (pg_name (i := 7) sc.nd rfl (Or.inl rfl)) pgs_nil))) (fun _ _ _ _ _ => pts_nil) (fun _ _ _ _ _ => pe_slice (show SlR _ (rSlT K) from sl_tup) (pv 7) (po_some pe_int) po_none)) pa_nil)) pa_nil)) rfl)
      (pss_cons (ps_if (pt_not (pt_chain op_le op_le pe_int (pe_callB call_len rfl T.f_len boot_len (pa_cons (pv 3) pa_nil)) pe_int)) (pss_one (ps_ret (pe_tup (pa_cons pe_str (pa_cons (pe_un un_neg pe_int) pa_nil))))) pss_nil)
      (pss_cons (ps_for PassesOwn.never rfl (pi_range1 rfl T.f_range (pa_cons (pe_callB call_len rfl T.f_len boot_len (pa_cons (pv 3) pa_nil)) pa_nil)) (pg_name (i := 5) sc.nd rfl (Or.inl rfl))
        (pss_one (ps_if (pt_not (pt_val (pe_callB (cr_all rfl) rfl T.f_all (by decide +kernel) (pa_cons (pe_lc (own := [("_law_part", 8)]) (g := gName 8) (tt := tYes) rfl sc.nd (pi_tup (pe_ix ix_tup (pv 3) (pv 5) (fun _ _ => rfl))) (blkOk_by (own := [("_law_part", 8)]) (N := ["_law_text", "_law_kind", "_law_rows", "_law_sizes", "_law_places", "_law_at", "_law_word", "_law_row", "_law_part"]) (sc := defScope (top 57)) (by decide +kernel))
            (fun _ _ _ _ _ => pg_name (i := 8) sc.nd rfl (Or.inl rfl)) (fun _ _ _ _ _ => pts_nil) (fun _ _ _ _ _ => pe_chain op_le op_le pe_int (pv 8) pe_int)) pa_nil))))
          (pss_one (ps_ret (pe_tup (pa_cons pe_str (pa_cons (pv 5) pa_nil))))) pss_nil)))
      (pss_one (ps_ret (pe_ifExp (pt_val (pe_0 (ok_law_shown_parts T) hr (by decide) rfl (pa_cons (pv 3) (pa_cons (pv 4) pa_nil))))
        (pe_tup (pa_cons pe_str (pa_cons (pe_tup (pa_cons (pv 3) (pa_cons (pv 4) pa_nil))) pa_nil))) (pe_tup (pa_cons pe_str (pa_cons pe_non pa_nil))))))))))), ?_⟩)
  · obtain ⟨text, rfl, _⟩ := h; rfl
  · obtain ⟨text, rfl, hl, q⟩ := h
    refine ⟨_, rfl, _, _, _, _, true, rfl, .ty _, .base (.str text), kit_ty (by decide +kernel), true, rfl, iteF ?_⟩
    refine ⟨_, rfl, (by show 1 ≤ sizeLine; decide), fun wl hwl => ?_⟩
    have S0 := same_upd (o := .lst [.str "box"]) hwl
    refine ⟨text, wl, [sBox], some 4, rfl, hl, SqL.of upd_same, fun n hn H1 t S1 ht => ?_, fun rows hrows H1 t l ys S1 ht hys hds => ?_⟩
    · have ep : picOut text = .line n := by
        unfold picOut
        rw [show reads rowBox (linesOf text) = .inl n from hn]
      rw [ep] at q
      refine ⟨t, _, rfl, ht, rfl, _, _, rfl, _, _, rfl, rfl, ?_⟩
      refine ⟨_, rfl, rfl, _, rfl, iteT ⟨_, rfl, _, rfl, (by show 2 ≤ sizeLine; decide), fun t2 ht2 => ?_⟩⟩
      exact q _ t2 (S0.trans (S1.trans (same_upd ht2))) (SqT.of upd_same)
    · have ep : picOut text = picRows (sizesOf rows) (placesOf rows) := by
        unfold picOut
        rw [show reads rowBox (linesOf text) = .inr rows from hrows]
      rw [ep] at q
      have S01 := S0.trans S1
      have hrl := rows_len hrows hl
      have hyl : ys.length = rows.length := by rw [dpAll_len hds, List.length_map]
      have four4 : ∀ {r : Row} {i : Nat}, rows[i]? = some r → ∃ e0 e1 e2 e3, r.2 = [e0, e1, e2, e3] := fun hr2 => four (rows_box (text := text) hrows (List.mem_of_getElem? hr2))
      refine ⟨t, _, rfl, ht, rfl, _, _, rfl, _, _, rfl, rfl, ?_⟩
      refine ⟨_, rfl, rfl, _, rfl, iteF ?_⟩
      refine ⟨_, rfl, l, rfl, ⟨_, hys⟩, fun D hD => lc_dp (K := K) (walk_list (K := K) (a := l) (xs := ys)) ((sizesOf rows).map encP) (by unfold sizesOf; rw [List.length_map, List.length_map, hyl]) (le_line (by omega)) hD (fun H3 h3 => sqL_ext (same_extN (h3.trans (del_sub _ _))) hys) yAt_same (fun i x H3 H4 d Qc hd h3 hacc hY hQ => ?_) (fun H2 ys2 h2 hD2 hds2 => ?_)⟩
      · obtain ⟨rfl, hx⟩ := hY
        unfold sizesOf at hd
        rw [List.getElem?_map, List.getElem?_map] at hd
        cases er : rows[i]? with
        | none => rw [er] at hd; cases hd
        | some r =>
          rw [er] at hd
          cases hd
          obtain ⟨a, b, rfl, ha, hb⟩ := row_item hds hx er
          obtain ⟨e0, e1, e2, e3, e4⟩ := four4 er
          rw [e4] at hb
          obtain ⟨acc, hacc⟩ := hacc
          have E3 := same_extN (h3.trans (del_sub _ _))
          refine ⟨a, _, rfl, sqT_ext E3 ha, rfl, _, _, rfl, _, _, rfl, rfl, rfl, ?_⟩
          refine ⟨_, rfl, _, rfl, b, _, rfl, sqT_ext E3 hb, (by show ¬(HT.sIx 4 0 none = 0 ∧ HT.sIx 4 4 (some 2) = 4); decide), fun p hp => hQ _ _ (same_upd hp) ?_⟩
          have hta : p ≠ D := Ne.symm (ne_of_none hacc hp)
          rw [del_upd_ne hta]
          dsimp only
          rw [e4]
          exact tup_new (by rw [del_ne hta]; exact hp) (ints_dpAll [e0, e1])
      · have S2 : Same H1 H2 := h2.trans (del_sub _ _)
        refine ⟨D, ys2, rfl, .inl ⟨SqL.of hD2, fun sl hsl => ?_⟩⟩
        have S3 := S2.trans (same_upd (o := .tup ys2) hsl)
        have hys3 := sqL_ext (same_extN S3) hys
        have hds3 := dpAll_ext S3 hds
        have hS3 : Dp K (upd H2 sl (.tup ys2)) (.ref sl) (encPs (sizesOf rows)) := tup_new hsl (dpAll_ext (del_sub _ _) hds2)
        generalize upd H2 sl (.tup ys2) = H3 at *
        refine ⟨_, rfl, l, rfl, ⟨_, hys3⟩, fun D2 hDD => lc_dp (K := K) (walk_list (K := K) (a := l) (xs := ys)) ((placesOf rows).map encP) (by unfold placesOf; rw [List.length_map, List.length_map, hyl]) (le_line (by omega)) hDD (fun H4 h4 => sqL_ext (same_extN (h4.trans (del_sub _ _))) hys3) yAt_same (fun i x H4 H5 d Qc hd h4 hacc hY hQ => ?_) (fun H4 ys4 h4 hD4 hds4 => ?_)⟩
        · obtain ⟨rfl, hx⟩ := hY
          unfold placesOf at hd
          rw [List.getElem?_map, List.getElem?_map] at hd
          cases er : rows[i]? with
          | none => rw [er] at hd; cases hd
          | some r =>
            rw [er] at hd
            cases hd
            obtain ⟨a, b, rfl, ha, hb⟩ := row_item hds3 hx er
            obtain ⟨e0, e1, e2, e3, e4⟩ := four4 er
            rw [e4] at hb
            obtain ⟨acc, hacc⟩ := hacc
            have E3 := same_extN (h4.trans (del_sub _ _))
            refine ⟨a, _, rfl, sqT_ext E3 ha, rfl, _, _, rfl, _, _, rfl, rfl, rfl, ?_⟩
            refine ⟨_, rfl, _, rfl, b, _, rfl, sqT_ext E3 hb, (by show ¬(HT.sIx 4 0 (some 2) = 0 ∧ HT.sIx 4 4 none = 4); decide), fun p hp => hQ _ _ (same_upd hp) ?_⟩
            have hta : p ≠ D2 := Ne.symm (ne_of_none hacc hp)
            rw [del_upd_ne hta]
            dsimp only
            rw [e4]
            exact tup_new (by rw [del_ne hta]; exact hp) (ints_dpAll [e2, e3])
        · refine ⟨D2, ys4, rfl, .inl ⟨SqL.of hD4, fun pl hpl => ?_⟩⟩
          have S4 : Same H3 (upd H4 pl (.tup ys4)) := (h4.trans (del_sub _ _)).trans (same_upd (o := .tup ys4) hpl)
          have hP4 : Dp K (upd H4 pl (.tup ys4)) (.ref pl) (encPs (placesOf rows)) := tup_new hpl (dpAll_ext (del_sub _ _) hds4)
          have hS4 := dp_ext S4 hS3
          have S04 := S01.trans (S3.trans S4)
          generalize upd H4 pl (.tup ys4) = H5 at *
          refine ⟨_, _, rfl, ?_⟩
          have hln : (sizesOf rows).length = (placesOf rows).length := by unfold placesOf sizesOf; rw [List.length_map, List.length_map]
          have hsl1 : (sizesOf rows).length ≤ 1000000 := by unfold sizesOf; rw [List.length_map]; exact hrl
          generalize sizesOf rows = ss at *
          generalize placesOf rows = ps at *
          obtain ⟨_, xs, e, hsx, hxs⟩ := dp_tup hS4
          cases e
          have hxl : xs.length = ss.length := by rw [dpAll_len hxs, List.length_map]
          refine ⟨_, rfl, _, xs.length, rfl, .inr ⟨xs, hsx, rfl⟩, _, _, rfl, rfl, _, rfl, ?_⟩
          have out : ¬ (1 ≤ ss.length ∧ ss.length ≤ 40) → ∀ t2, H5 t2 = none → Q (.ref t2) (upd H5 t2 (.tup [.str "boxes", .int (-1)])) := fun z t2 ht2 => by
            unfold picRows at q
            rw [bad_len z] at q
            exact q _ t2 (S04.trans (same_upd ht2)) (SqT.of upd_same)
          rw [hxl]
          by_cases c1 : (1 : Int) ≤ (ss.length : Int)
          · rw [decide_eq_true c1]
            refine iteT ⟨_, _, rfl, rfl, _, rfl, ?_⟩
            by_cases c2 : (ss.length : Int) ≤ 40
            · rw [decide_eq_true c2]
              refine iteF ?_
              have c1' : 1 ≤ ss.length := by omega
              have c2' : ss.length ≤ 40 := by omega
              refine ⟨_, rfl, _, xs.length, rfl, .inr ⟨xs, hsx, rfl⟩, _, rfl, by omega, by omega, for_range (lo := 0) (n := (xs.length : Int).toNat) (fun k σ H' => ∃ o5 o8, σ = [some (.str text), some (.str "rows"), some (.ref l), some (.ref sl), some (.ref pl), o5, none, none, o8] ∧ Same H5 H' ∧ ∀ j s', j < k → ss[j]? = some s' → sizeOk s' = true) ?_ ?_ ?_⟩
              · exact ⟨none, none, rfl, Same.refl _, fun j s' hj => absurd hj (by omega)⟩
              · rintro k σ H6 hk ⟨o5, o8, rfl, S6, hok⟩
                have hk' : k < ss.length := by omega
                have e0 : (0 : Int) + (k : Int) = (k : Int) := by omega
                rw [e0]
                have hsx6 := sqT_ext (same_extN S6) hsx
                obtain ⟨b, f1, g1⟩ := encPs_at (dpAll_ext S6 hxs) (at2_get hk')
                refine ⟨_, rfl, _, rfl, sl, xs, _, _, rfl, rfl, hsx6, atI_nat f1, b, rfl, ⟨_, g1⟩, fun D3 hD3 => lc_dp (K := K) (walk_tup (K := K) (a := b) (xs := [.int (at2 ss k).1, .int (at2 ss k).2])) ([(decide (1 ≤ (at2 ss k).1) && decide ((at2 ss k).1 ≤ 1000)), (decide (1 ≤ (at2 ss k).2) && decide ((at2 ss k).2 ≤ 1000))].map PyData.bool) rfl (by show 2 ≤ sizeLine; decide) hD3 (fun H7 h7 => sqT_ext (same_extN (h7.trans (del_sub _ _))) g1) yAt_same (fun i x H7 H8 d Qc hd h7 hacc hY hQ => ?_) (fun H7 ys7 h7 hD7 hds7 => ?_)⟩
                · obtain ⟨rfl, hx⟩ := hY
                  have chain : ∀ n : Int, Qc (.bl (decide (1 ≤ n) && decide (n ≤ 1000))) H8 → tChain (rI0 fun i j => .bl (decide (i ≤ j))) (rI0 fun i j => .bl (decide (i ≤ j))) (tC (.int 1)) (tVar 8) (tC (.int 1000)) [some (.str text), some (.str "rows"), some (.ref l), some (.ref sl), some (.ref pl), some (.int k), none, none, some (.int n)] H8 Qc := fun n hq => by
                    refine ⟨_, rfl, _, _, rfl, rfl, _, rfl, ?_⟩
                    by_cases c : (1 : Int) ≤ n
                    · rw [decide_eq_true c] at hq ⊢
                      refine iteT ⟨_, _, rfl, rfl, ?_⟩
                      simpa using hq
                    · rw [decide_eq_false c] at hq ⊢
                      exact iteF hq
                  match i, hx, hd with
                  | 0, hx, hd =>
                    cases hx
                    cases hd
                    exact ⟨rfl, chain _ (hQ _ _ (Same.refl _) (.bl _))⟩
                  | 1, hx, hd =>
                    cases hx
                    cases hd
                    exact ⟨rfl, chain _ (hQ _ _ (Same.refl _) (.bl _))⟩
                  | i + 2, hx, hd => cases hd
                · cases dpAll_bls hds7
                  have S7 := S6.trans (h7.trans (del_sub _ _))
                  refine ⟨D3, _, rfl, SqL.of hD7, _, rfl, ?_⟩
                  rw [all_two]
                  cases c : sizeOk (at2 ss k) with
                  | true =>
                    refine iteF ⟨_, _, rfl, S7, fun j s' hj hs => ?_⟩
                    by_cases e : j = k
                    · subst e
                      rw [at2_get hk'] at hs
                      cases hs
                      exact c
                    · exact hok j s' (by omega) hs
                  | false =>
                    refine iteT ⟨_, rfl, (by show 2 ≤ sizeLine; decide), fun t2 ht2 => ?_⟩
                    have hb : badPart ss = some (k : Int) := bad_some c1' c2' (at2_get hk') c hok
                    unfold picRows at q
                    rw [hb] at q
                    exact q _ t2 (S04.trans (S7.trans (same_upd ht2))) (SqT.of upd_same)
              · rintro σ H6 ⟨o5, o8, rfl, S6, hok⟩
                have hb : badPart ss = none := bad_none c1' c2' fun j s' hj hs => hok j s' (by omega) hs
                unfold picRows at q
                rw [hb] at q
                refine ⟨_, rfl, _, rfl, _, _, ss, ps, rfl, dp_ext S6 hS4, dp_ext S6 hP4, by omega, hsl1, _, rfl, ?_⟩
                cases c : okPic ss ps with
                | true =>
                  simp only [c, if_true] at q
                  refine iteT ⟨_, rfl, _, rfl, (by show 2 ≤ sizeLine; decide), fun u hu => ⟨(by show 2 ≤ sizeLine; decide), fun t2 ht2 => ?_⟩⟩
                  have S8 := same_upd (o := .tup [.ref sl, .ref pl]) hu
                  have S9 := same_upd (o := .tup [.str "let", .ref u]) ht2
                  have S69 := S6.trans (S8.trans S9)
                  exact q _ t2 (S04.trans S69) ⟨u, _, _, SqT.of upd_same, SqT.of (S9 _ _ upd_same), dp_ext S69 hS4, dp_ext S69 hP4, c2', hb⟩
                | false =>
                  simp only [c, if_neg Bool.false_ne_true] at q
                  refine iteF ⟨(by show 2 ≤ sizeLine; decide), fun t2 ht2 => ?_⟩
                  exact q _ t2 (S04.trans (S6.trans (same_upd ht2))) (SqT.of upd_same)
            · rw [decide_eq_false c2]
              exact iteT ⟨_, rfl, (by show 2 ≤ sizeLine; decide), fun t2 ht2 => out (by omega) t2 ht2⟩
          · rw [decide_eq_false c1]
            exact iteF ⟨_, rfl, iteT ⟨_, rfl, (by show 2 ≤ sizeLine; decide), fun t2 ht2 => out (by omega) t2 ht2⟩⟩
def spDueS (K : PySem.W.Frag) : Sp := fun vs H Q _ => ∃ (text : Str) (m : Nat), vs = [.str text, .int m] ∧ text.length ≤ 900000 ∧ ∀ H' t, Same H H' → DueS K H' t (scrOut m text) → Q (.ref t) H'
theorem ok_law_due_script (T : Txt K mg) : CalX P w K mg base CX0 3 "_law_due_script" (spDueS K) := by
  obtain ⟨fd, F⟩ := T.d__law_due_script
  have sc : FnScope ["_law_text", "_law_many", "_law_kind", "_law_rows", "_law_is_let", "_law_way", "_law_goals"] ["_law_text", "_law_many"] (defScope (top 58)) := C8.fnScope_by (by decide +kernel)
  refine mk_cal0 ["_law_text", "_law_many", "_law_kind", "_law_rows", "_law_is_let", "_law_way", "_law_goals"] ["_law_text", "_law_many"] F T.g__law_due_script sc (fun _ _ _ _ _ _ us hl => match us, hl with | [_, _], _ => rfl) (fun vs H Q E h => ?_) (fun cdv A outer s H vs Q E hr h => ⟨_,
      pss_cons (ps_if (pt_not (pt_val (pe_callB call_isi rfl T.f_isinstance (by decide +kernel) (pa_cons (pv 0) (pa_cons (pe_bltn (v := .ty "str") rfl T.f_str (by decide +kernel) rfl) pa_nil)))))
        (pss_one (ps_ret (pe_tup (pa_cons pe_str (pa_cons pe_int pa_nil))))) pss_nil)
      (pss_cons (ps_asg (pe_0 (ok_law_read_lines T) hr (by decide) rfl (pa_cons (pv 0) (pa_cons (pe_lst (pa_cons pe_str (pa_cons pe_str pa_nil))) (pa_cons pe_non pa_nil)))) (pg_tup rfl (pgs_cons (pg_name (i := 2) sc.nd rfl (Or.inl rfl)) (pgs_cons (pg_name (i := 3) sc.nd rfl (Or.inl rfl)) pgs_nil))))
      (pss_cons (ps_if (pt_cmpR op_eq (pv 2) pe_str (nomark _)) (pss_one (ps_ret (pe_tup (pa_cons (pv 2) (pa_cons (pv 3) pa_nil))))) pss_nil)
      (pss_cons (ps_set (i := 4) sc.nd rfl (Or.inl rfl) (pe_and (pe_cmpR op_le (pe_callB call_len rfl T.f_len boot_len (pa_cons (pv 3) pa_nil)) pe_int (nomark _))
        (pe_one (pe_callB (cr_all rfl) rfl T.f_all (by decide +kernel) (pa_cons (pe_lc (own := [("_law_way", 5), ("_law_goals", 6)]) (g := gTup K 2 (gCons (gName 5) (gCons (gName 6) gNil))) (tt := tYes) rfl sc.nd (pi_list (pv 3)) (blkOk_by (own := [("_law_way", 5), ("_law_goals", 6)]) (N := ["_law_text", "_law_many", "_law_kind", "_law_rows", "_law_is_let", "_law_way", "_law_goals"]) (sc := defScope (top 58)) (by decide +kernel))
            (fun _ _ _ _ _ => pg_tup rfl (pgs_cons (pg_name (i := 5) sc.nd rfl (Or.inl rfl)) (pgs_cons (pg_name (i := 6) sc.nd rfl (Or.inl rfl)) pgs_nil))) (fun _ _ _ _ _ => pts_nil) (fun _ _ _ _ _ => pe_cmpR op_eq (pe_callB (show CallR _ _ (fun xs H Q => ∃ x n, xs = [x] ∧ LenV K x H n ∧ Q (.int n) H) from call_len) rfl T.f_len boot_len (pa_cons (pv 6) pa_nil)) (pv 1) (nomark _))) pa_nil)))))
      (pss_one (ps_ret (pe_ifExp (pt_val (pv 4)) (pe_tup (pa_cons pe_str (pa_cons (pe_callTy call_tuple_of rfl T.f_tuple (by decide +kernel) (pa_cons (pv 3) pa_nil)) pa_nil))) (pe_tup (pa_cons pe_str (pa_cons pe_non pa_nil))))))))), ?_⟩)
  · obtain ⟨text, m, rfl, _⟩ := h; rfl
  · obtain ⟨text, m, rfl, hl, q⟩ := h
    refine ⟨_, rfl, _, _, _, _, true, rfl, .ty _, .base (.str text), kit_ty (by decide +kernel), true, rfl, iteF ?_⟩
    refine ⟨_, rfl, (by show 2 ≤ sizeLine; decide), fun wl hwl => ?_⟩
    have S0 := same_upd (o := .lst [.str "level", .str "upright"]) hwl
    refine ⟨text, wl, [sLv, sUp], none, rfl, hl, SqL.of upd_same, fun n hn H1 t S1 ht => ?_, fun rows hrows H1 t l ys S1 ht hys hds => ?_⟩
    · have ep : scrOut m text = .line n := by
        unfold scrOut
        rw [show reads rowStroke (linesOf text) = .inl n from hn]
      rw [ep] at q
      refine ⟨t, _, rfl, ht, rfl, _, _, rfl, _, _, rfl, rfl, ?_⟩
      refine ⟨_, rfl, rfl, _, rfl, iteT ⟨_, rfl, _, rfl, (by show 2 ≤ sizeLine; decide), fun t2 ht2 => ?_⟩⟩
      exact q _ t2 (S0.trans (S1.trans (same_upd ht2))) (SqT.of upd_same)
    · have ep : scrOut m text = scrRows m rows := by
        unfold scrOut
        rw [show reads rowStroke (linesOf text) = .inr rows from hrows]
      rw [ep] at q
      have S01 := S0.trans S1
      have hrl := rows_len hrows hl
      have hyl : ys.length = rows.length := by rw [dpAll_len hds, List.length_map]
      refine ⟨t, _, rfl, ht, rfl, _, _, rfl, _, _, rfl, rfl, ?_⟩
      refine ⟨_, rfl, rfl, _, rfl, iteF ?_⟩
      refine ⟨_, rfl, _, _, rfl, .inl ⟨_, hys, rfl⟩, _, _, rfl, rfl, _, rfl, ?_⟩
      rw [hyl]
      by_cases c : rows.length ≤ 200
      · rw [decide_eq_true (show (rows.length : Int) ≤ 200 by omega)]
        refine iteT ⟨_, rfl, l, rfl, ⟨_, hys⟩, fun D hD => lc_dp (K := K) (walk_list (K := K) (a := l) (xs := ys)) (rows.map fun r => PyData.bool (decide (r.2.length = m))) (by rw [List.length_map, hyl]) (le_line (by omega)) hD (fun H3 h3 => sqL_ext (same_extN (h3.trans (del_sub _ _))) hys) yAt_same (fun i x H3 H4 d Qc hd h3 hacc hY hQ => ?_) (fun H2 ys2 h2 hD2 hds2 => ?_)⟩
        · obtain ⟨rfl, hx⟩ := hY
          rw [List.getElem?_map] at hd
          cases er : rows[i]? with
          | none => rw [er] at hd; cases hd
          | some r =>
            rw [er] at hd
            cases hd
            obtain ⟨a, b, rfl, ha, hb⟩ := row_item hds hx er
            have E3 := same_extN (h3.trans (del_sub _ _))
            refine ⟨a, _, rfl, sqT_ext E3 ha, rfl, _, _, rfl, _, _, rfl, rfl, rfl, ?_⟩
            refine ⟨_, rfl, _, _, rfl, .inr ⟨_, sqT_ext E3 hb, rfl⟩, _, rfl, rfl, ?_⟩
            have e3 : decide (V.int ((r.2.map V.int).length : Int) = V.int (m : Int)) = decide (r.2.length = m) := by
              rw [List.length_map]
              by_cases h : r.2.length = m
              · rw [h, decide_eq_true (Eq.refl m)]; exact decide_eq_true rfl
              · rw [decide_eq_false h]
                exact decide_eq_false fun z => h (by have := V.int.inj z; omega)
            rw [e3]
            exact hQ _ _ (Same.refl _) (.bl _)
        · have e2 := dpAll_bls (ns := rows.map fun r => decide (r.2.length = m)) (by rw [List.map_map]; exact hds2)
          subst e2
          have S2 : Same H1 H2 := h2.trans (del_sub _ _)
          refine ⟨D, _, rfl, SqL.of hD2, ?_⟩
          have e3 : (rows.map fun r => decide (r.2.length = m)).all id = rows.all fun r => decide (r.2.length = m) := by rw [List.all_map]; rfl
          rw [e3]
          refine ⟨_, rfl, _, rfl, ?_⟩
          unfold scrRows at q
          cases c3 : rows.all fun r => decide (r.2.length = m) with
          | true =>
            rw [if_pos ⟨c, c3⟩] at q
            refine iteT ⟨_, rfl, l, ys, rfl, .inl ⟨sqL_ext (same_extN S2) hys, fun l2 hl2 => ⟨(by show 2 ≤ sizeLine; decide), fun t2 ht2 => ?_⟩⟩⟩
            have S8 := same_upd (o := .tup ys) hl2
            have S9 := same_upd (o := .tup [.str "let", .ref l2]) ht2
            exact q _ t2 (S01.trans (S2.trans (S8.trans S9))) ⟨_, SqT.of upd_same, .tup (SqT.of (S9 _ _ upd_same)) (dpAll_ext (S2.trans (S8.trans S9)) hds), c⟩
          | false =>
            rw [if_neg (fun z => by rw [c3] at z; exact Bool.false_ne_true z.2)] at q
            refine iteF ⟨(by show 2 ≤ sizeLine; decide), fun t2 ht2 => ?_⟩
            exact q _ t2 (S01.trans (S2.trans (same_upd ht2))) (SqT.of upd_same)
      · rw [decide_eq_false (show ¬ (rows.length : Int) ≤ 200 by omega)]
        unfold scrRows at q
        rw [if_neg (fun z => c z.1)] at q
        refine iteF ⟨_, rfl, _, rfl, iteF ⟨(by show 2 ≤ sizeLine; decide), fun t2 ht2 => ?_⟩⟩
        exact q _ t2 (S01.trans (same_upd ht2)) (SqT.of upd_same)
end
end K45

namespace K45
open PySem PySem.Spec PyProof.Rows L2
section
variable {K : PySem.W.Frag} {H : Hp} {h t : Addr}
/-- a new item behind data -/
theorem catP {sv u : V} {ss : List II} {p : II} {Q : VK} (hv : Dp K (del H h) sv (encPs ss)) (ht : SqT K (del H h) t [u]) (hu : Dp K (del H h) u (encP p)) (hl : ss.length ≤ 1000) (hh : ∃ o, H h = some o)
    (q : ∀ v H', Same H H' → Dp K (del H' h) v (encPs (ss ++ [p])) → Q v H') : rCatA K sv (.ref t) H Q := by
  obtain ⟨a, xs, rfl, ha, hxs⟩ := dp_tup hv
  obtain ⟨o, hh⟩ := hh
  have E := same_extN (del_sub H h)
  have hxl : xs.length = ss.length := by rw [dpAll_len hxs, List.length_map]
  have one : DpAll K (del H h) [u] ([p].map encP) := .cons hu .nil
  refine ⟨a, t, xs, [u], rfl, rfl, sqT_ext E ha, sqT_ext E ht, by rw [hxl, sizeLine_eq]; show ss.length + 1 ≤ _; omega, fun e => ?_, ?_, fun _ _ pn hpn => ?_⟩
  · have : ss = [] := List.length_eq_zero_iff.mp (by rw [← hxl, e]; rfl)
    rw [this] at q
    exact q _ H (Same.refl _) (.tup ht one)
  · intro _ e
    cases e
  · have hph : pn ≠ h := Ne.symm (ne_of_none hh hpn)
    refine q _ _ (same_upd hpn) ?_
    rw [del_upd_ne hph]
    unfold encPs
    rw [List.map_append]
    exact tup_new (by rw [del_ne hph]; exact hpn) (dpAll_app hxs one)
theorem hand_here (x : HandAt K H h) : ∃ o, H h = some o := by
  obtain ⟨c, i, b, s, k, ns, x⟩ := x
  exact ⟨_, x.at_⟩
/-- new tuples beside the hand -/
theorem tup_by {o : HO} {b : Addr} {xs : List V} (hh : ∃ o, H h = some o) (hb : H b = none) : SqT K (del (upd H b (.tup xs)) h) b xs := by
  obtain ⟨o, hh⟩ := hh
  exact SqT.of (by rw [del_ne (Ne.symm (ne_of_none hh hb))]; exact upd_same)
end
def wideP (k : Nat) (p : II) : Prop := -10 ≤ p.1 ∧ p.1 ≤ 9 + 7 * (k : Int) ∧ -10 ≤ p.2 ∧ p.2 ≤ 10
def smallS (s : II) : Prop := 1 ≤ s.1 ∧ s.1 ≤ 6 ∧ 1 ≤ s.2 ∧ s.2 ≤ 6
theorem wide_up {k : Nat} {p : II} (h : wideP k p) : wideP (k + 1) p := by
  obtain ⟨a, b, c, d⟩ := h
  exact ⟨a, by omega, c, d⟩
theorem okPic_one {ss ps : List II} (h : ss.length = 1) : okPic ss ps = true := okPic_iff.mpr fun j i hi hj => by omega
theorem at2_mem {l : List II} {i : Nat} (h : i < l.length) : at2 l i ∈ l := List.mem_of_getElem? (at2_get h)
section
variable {P : Program} {w : World} {K : PySem.W.Frag} {mg : Str → Option Value} {base : Heap}
def spParts (K : PySem.W.Frag) : Sp := fun vs H Q _ => ∃ h : Addr, vs = [.ref h, .int 5, .int 6, .int 14] ∧ HandAt K H h ∧ ∀ H' t sv pv ss ps, Step K h H H' → SqT K (del H' h) t [sv, pv] → Dp K (del H' h) sv (encPs ss) → Dp K (del H' h) pv (encPs ps) →
  ss.length = ps.length → 1 ≤ ss.length → ss.length ≤ 5 → (∀ s ∈ ss, smallS s) → (∀ p ∈ ps, wideP 5 p) → Q (.ref t) H'
def sumD (ps ss : List II) (n : Nat) : List Int := (List.range n).map fun i => (at2 ps i).1 + (at2 ss i).1
theorem ok_law_parts (T : Txt K mg) : CalX P w K mg base CX0 3 "_law_parts" (spParts K) := by
  obtain ⟨fd, F⟩ := T.d__law_parts
  have sc : FnScope ["_law_hand_here", "_law_most", "_law_size", "_law_spread", "_law_sizes", "_law_places", "_law_box", "_law_place", "_law_turn", "_law_x", "_law_y", "_law_right", "_law_at", "_law_one"] ["_law_hand_here", "_law_most", "_law_size", "_law_spread"] (defScope (top 52)) := C8.fnScope_by (by decide +kernel)
  refine mk_cal0 ["_law_hand_here", "_law_most", "_law_size", "_law_spread", "_law_sizes", "_law_places", "_law_box", "_law_place", "_law_turn", "_law_x", "_law_y", "_law_right", "_law_at", "_law_one"] ["_law_hand_here", "_law_most", "_law_size", "_law_spread"] F T.g__law_parts sc (fun _ _ _ _ _ _ us hl => match us, hl with | [_, _, _, _], _ => rfl) (fun vs H Q E h => ?_) (fun cdv A outer s H vs Q E hr h => ⟨_,
      pss_cons (ps_asg (pe_tup (pa_cons (pe_tup pa_nil) (pa_cons (pe_tup pa_nil) pa_nil))) (pg_tup rfl (pgs_cons (pg_name (i := 4) sc.nd rfl (Or.inl rfl)) (pgs_cons (pg_name (i := 5) sc.nd rfl (Or.inl rfl)) pgs_nil))))
      (pss_cons (ps_for PassesOwn.never rfl (pi_range1 rfl T.f_range (pa_cons (pe_op op_add pe_int (pe_0 (ok_law_draw T) hr (by decide) rfl (pa_cons (pv 0) (pa_cons (pv 1) pa_nil)))) pa_nil)) (pg_name (i := 6) sc.nd rfl (Or.inl rfl))
        (pss_cons (ps_set (i := 4) sc.nd rfl (Or.inl rfl) (pe_op op_catA (pv 4) (pe_tup (pa_cons (pe_tup (pa_cons (pe_op op_add pe_int (pe_0 (ok_law_draw T) hr (by decide) rfl (pa_cons (pv 0) (pa_cons (pv 2) pa_nil)))) (pa_cons (pe_op op_add pe_int (pe_0 (ok_law_draw T) hr (by decide) rfl (pa_cons (pv 0) (pa_cons (pv 2) pa_nil)))) pa_nil))) pa_nil))))
        (pss_cons (ps_set (i := 7) sc.nd rfl (Or.inl rfl) pe_non)
        (pss_cons (ps_for PassesOwn.never rfl (pi_range1 rfl T.f_range (pa_cons pe_int pa_nil)) (pg_name (i := 8) sc.nd rfl (Or.inl rfl))
          (pss_one (ps_if (pt_cmpR op_isN (pv 7) pe_non (nomark _))
            (pss_cons (ps_par (i := 9) (j := 10) rfl sc.nd rfl rfl (by decide) rfl rfl (pa_cons (pe_op op_sub (pe_0 (ok_law_draw T) hr (by decide) rfl (pa_cons (pv 0) (pa_cons (pv 3) pa_nil))) (pe_op op_fdiv (pv 3) pe_int)) (pa_cons (pe_op op_sub (pe_0 (ok_law_draw T) hr (by decide) rfl (pa_cons (pv 0) (pa_cons (pv 3) pa_nil))) (pe_op op_fdiv (pv 3) pe_int)) pa_nil)) rfl)
            (pss_one (ps_set (i := 7) sc.nd rfl (Or.inl rfl) (pe_ifExp (pt_val (pe_0 (ok_law_shown_parts T) hr (by decide) rfl (pa_cons (pv 4) (pa_cons (pe_op op_catA (pv 5) (pe_tup (pa_cons (pe_tup (pa_cons (pv 9) (pa_cons (pv 10) pa_nil))) pa_nil))) pa_nil))))
              (pe_tup (pa_cons (pv 9) (pa_cons (pv 10) pa_nil))) pe_non)))) pss_nil)))
        (pss_cons (ps_if (pt_cmpR op_isN (pv 7) pe_non (nomark _))
            (pss_cons (ps_set (i := 11) sc.nd rfl (Or.inl rfl) (pe_callB (cr_max rfl) rfl T.f_max (by decide +kernel) (pa_cons (pe_lc (own := [("_law_at", 12), ("_law_one", 13)]) (g := gTup K 2 (gCons (gName 12) (gCons (gName 13) gNil))) (tt := tYes) rfl sc.nd (RZ.pi_zipA rfl T.f_zip (pa_cons (pv 5) (pa_cons (pv 4) pa_nil)))
                (blkOk_by (own := [("_law_at", 12), ("_law_one", 13)]) (N := ["_law_hand_here", "_law_most", "_law_size", "_law_spread", "_law_sizes", "_law_places", "_law_box", "_law_place", "_law_turn", "_law_x", "_law_y", "_law_right", "_law_at", "_law_one"]) (sc := defScope (top 52)) (by decide +kernel))
                (fun _ _ _ _ _ => pg_tup rfl (pgs_cons (pg_name (i := 12) sc.nd rfl (Or.inl rfl)) (pgs_cons (pg_name (i := 13) sc.nd rfl (Or.inl rfl)) pgs_nil))) (fun _ _ _ _ _ => pts_nil)
                (fun _ _ _ _ _ => pe_op op_add (pe_ix (show IxR _ (rIxT K) from ix_tup) (pv 12) pe_int (fun _ _ => rfl)) (pe_ix (show IxR _ (rIxT K) from ix_tup) (pv 13) pe_int (fun _ _ => rfl)))) pa_nil)))
            (pss_one (ps_set (i := 7) sc.nd rfl (Or.inl rfl) (pe_tup (pa_cons (pe_op op_add (pv 11) (pe_0 (ok_law_draw T) hr (by decide) rfl (pa_cons (pv 0) (pa_cons pe_int pa_nil)))) (pa_cons (pe_op op_sub (pe_0 (ok_law_draw T) hr (by decide) rfl (pa_cons (pv 0) (pa_cons pe_int pa_nil))) pe_int) pa_nil)))))) pss_nil)
        (pss_one (ps_set (i := 5) sc.nd rfl (Or.inl rfl) (pe_op op_catA (pv 5) (pe_tup (pa_cons (pv 7) pa_nil))))))))))
      (pss_one (ps_ret (pe_tup (pa_cons (pv 4) (pa_cons (pv 5) pa_nil)))))), ?_⟩)
  · obtain ⟨h, rfl, _⟩ := h; rfl
  · obtain ⟨h, rfl, hh, q⟩ := h
    refine ⟨Nat.zero_le _, fun e1 he1 => ⟨Nat.zero_le _, fun e2 he2 => ⟨(by show 2 ≤ sizeLine; decide), fun e3 he3 => ⟨e3, _, rfl, SqT.of upd_same, rfl, _, _, rfl, _, _, rfl, rfl, ?_⟩⟩⟩⟩
    have S1 := (same_upd (o := .tup []) he1)
    have S2 := same_upd (o := .tup []) he2
    have S3 := same_upd (o := .tup [V.ref e1, V.ref e2]) he3
    have T2 := Step.same hh (S1.trans (S2.trans S3))
    have hh1 := hand_here (hh.same S1)
    have hh0 := hand_here hh
    have D1 : Dp K (del (upd (upd (upd H e1 (.tup [])) e2 (.tup [])) e3 (.tup [V.ref e1, V.ref e2])) h) (.ref e1) (encPs []) := .tup (sqT_ext (same_extN (same_del h (S2.trans S3))) (tup_by (o := .tup []) hh0 he1)) .nil
    have D2 : Dp K (del (upd (upd (upd H e1 (.tup [])) e2 (.tup [])) e3 (.tup [V.ref e1, V.ref e2])) h) (.ref e2) (encPs []) := .tup (sqT_ext (same_extN (same_del h S3)) (tup_by (o := .tup []) hh1 he2)) .nil
    generalize upd (upd (upd H e1 (.tup [])) e2 (.tup [])) e3 (.tup [V.ref e1, V.ref e2]) = H2 at *
    refine ⟨_, rfl, _, rfl, h, 5, rfl, T2.1, by decide, by decide, fun H3 n T3 n0 n5 => ⟨_, _, rfl, rfl, _, rfl, by omega, by omega, for_range (lo := 0) (n := (1 + n).toNat)
      (fun k σ H' => ∃ sv pv ss ps o6 o7 o8 o9 o10 o11 o12 o13, σ = [some (.ref h), some (.int 5), some (.int 6), some (.int 14), some sv, some pv, o6, o7, o8, o9, o10, o11, o12, o13] ∧ Step K h H H' ∧ Dp K (del H' h) sv (encPs ss) ∧ Dp K (del H' h) pv (encPs ps) ∧
        ss.length = k ∧ ps.length = k ∧ (∀ s ∈ ss, smallS s) ∧ (∀ p ∈ ps, wideP k p)) ?_ ?_ ?_⟩⟩
    · exact ⟨_, _, [], [], none, none, none, none, none, none, none, none, rfl, T2.trans T3, dp_ext T3.2 D1, dp_ext T3.2 D2, rfl, rfl, fun s hs => (List.not_mem_nil hs).elim, fun s hs => (List.not_mem_nil hs).elim⟩
    · rintro k σ H4 hk ⟨sv, pv', ss, ps, o6, o7, o8, o9, o10, o11, o12, o13, rfl, T4, hs, hp, ls, lp, bs, bp⟩
      refine ⟨_, rfl, _, rfl, _, rfl, h, 6, rfl, T4.1, by decide, by decide, fun H5 a T5 a0 a1 => ⟨_, _, rfl, rfl, _, rfl, _, rfl, h, 6, rfl, T5.1, by decide, by decide, fun H6 b T6 b0 b1 => ⟨_, _, rfl, rfl, (by show 2 ≤ sizeLine; decide), fun q1 hq1 => ⟨(by show 1 ≤ sizeLine; decide), fun q2 hq2 => ?_⟩⟩⟩⟩
      have S7 := same_upd (o := .tup [V.int (1 + a), V.int (1 + b)]) hq1
      have S8 := same_upd (o := .tup [V.ref q1]) hq2
      have T46 := T5.trans T6
      have hh7 := hand_here (T6.1.same S7)
      have hh6 := hand_here T6.1
      have X8 := Step.same T6.1 (S7.trans S8)
      refine catP (h := h) (p := (1 + a, 1 + b)) (dp_ext (T46.2.trans X8.2) hs) (tup_by (o := .tup []) hh7 hq2) (dp_ext (same_del h S8) (.tup (tup_by (o := .tup []) hh6 hq1) (ints_dpAll [1 + a, 1 + b]))) (by omega) (hand_here X8.1) fun sv2 H7 S9 hs2 => ?_
      have T7 := T46.trans (X8.trans (Step.same X8.1 S9))
      have hp7 := dp_ext T7.2 hp
      have bs2 : ∀ s ∈ ss ++ [(1 + a, 1 + b)], smallS s := fun s hs => by
        rcases List.mem_append.mp hs with z | z
        · exact bs s z
        · cases List.mem_singleton.mp z
          exact ⟨by show 1 ≤ 1 + a; omega, by show 1 + a ≤ 6; omega, by show 1 ≤ 1 + b; omega, by show 1 + b ≤ 6; omega⟩
      have ls2 : (ss ++ [(1 + a, 1 + b)]).length = k + 1 := by rw [List.length_append, ls]; rfl
      have T07 := T4.trans T7
      generalize ss ++ [(1 + a, 1 + b)] = ss2 at *
      refine ⟨_, rfl, by decide, by decide, for_range (lo := 0) (n := (4 : Int).toNat) (fun i σ H' => ∃ pl o8 o9 o10, σ = [some (.ref h), some (.int 5), some (.int 6), some (.int 14), some sv2, some pv', some (.int (0 + (k : Int))), some pl, o8, o9, o10, o11, o12, o13] ∧ Step K h H H' ∧
        Dp K (del H' h) sv2 (encPs ss2) ∧ Dp K (del H' h) pv' (encPs ps) ∧ ((pl = .non ∧ (i = 0 ∨ 0 < k)) ∨ ∃ p, Dp K (del H' h) pl (encP p) ∧ wideP (k + 1) p)) ?_ ?_ ?_⟩
      · exact ⟨_, _, _, _, rfl, T07, hs2, hp7, .inl ⟨rfl, .inl rfl⟩⟩
      · rintro i σ H8 hi ⟨pl, o8, o9, o10, rfl, T8, hs8, hp8, hpl⟩
        refine ⟨_, rfl, rfl, _, rfl, ?_⟩
        rcases hpl with ⟨rfl, hz⟩ | ⟨p, hpp, hw⟩
        · refine iteT ⟨_, rfl, _, rfl, h, 14, rfl, T8.1, by decide, by decide, fun H9 a T9 a0 a1 => ⟨_, rfl, _, _, rfl, rfl, ⟨by decide, by decide⟩, _, _, rfl, rfl, _, rfl, _, rfl, h, 14, rfl, T9.1, by decide, by decide, fun H10 b T10 b0 b1 => ⟨_, rfl, _, _, rfl, rfl, ⟨by decide, by decide⟩, _, _, rfl, rfl, _, _, rfl, ?_⟩⟩⟩
          have T810 := T9.trans T10
          have e14 : (14 : Int) / 3 = 4 := by decide
          rw [e14]
          refine ⟨_, rfl, _, rfl, _, rfl, _, rfl, (by show 2 ≤ sizeLine; decide), fun q1 hq1 => ⟨(by show 1 ≤ sizeLine; decide), fun q2 hq2 => ?_⟩⟩
          have S7 := same_upd (o := .tup [V.int (a - 4), V.int (b - 4)]) hq1
          have S8 := same_upd (o := .tup [V.ref q1]) hq2
          have hh7 := hand_here (T10.1.same S7)
          have hh6 := hand_here T10.1
          have X8 := Step.same T10.1 (S7.trans S8)
          refine catP (h := h) (p := (a - 4, b - 4)) (dp_ext (T810.2.trans X8.2) hp8) (tup_by (o := .tup []) hh7 hq2) (dp_ext (same_del h S8) (.tup (tup_by (o := .tup []) hh6 hq1) (ints_dpAll [a - 4, b - 4]))) (by omega) (hand_here X8.1) fun pv2 H11 S11 hp2 => ?_
          have T11 := T810.trans (X8.trans (Step.same X8.1 S11))
          have hs11 := dp_ext T11.2 hs8
          have hp11 := dp_ext T11.2 hp8
          have E11 := del_sub H11 h
          refine ⟨_, _, ss2, ps ++ [(a - 4, b - 4)], rfl, dp_ext E11 hs11, dp_ext E11 hp2, by rw [List.length_append, ls2, lp]; exact Nat.le_refl _, by omega, _, rfl, ?_⟩
          cases c : okPic ss2 (ps ++ [(a - 4, b - 4)]) with
          | true =>
            refine iteT ⟨_, rfl, _, rfl, (by show 2 ≤ sizeLine; decide), fun r hr2 => ?_⟩
            have S12 := same_upd (o := .tup [V.int (a - 4), V.int (b - 4)]) hr2
            have X12 := Step.same T11.1 S12
            refine ⟨_, _, _, _, rfl, T8.trans (T11.trans X12), dp_ext X12.2 hs11, dp_ext X12.2 hp11, .inr ⟨(a - 4, b - 4), .tup (tup_by (o := .tup []) (hand_here T11.1) hr2) (ints_dpAll [a - 4, b - 4]), ?_⟩⟩
            exact ⟨by show -10 ≤ a - 4; omega, by show a - 4 ≤ _; omega, by show -10 ≤ b - 4; omega, by show b - 4 ≤ 10; omega⟩
          | false =>
            refine iteF ⟨_, _, _, _, rfl, T8.trans T11, hs11, hp11, .inl ⟨rfl, .inr ?_⟩⟩
            by_cases z : k = 0
            · rw [okPic_one (by rw [ls2, z])] at c
              cases c
            · omega
        · obtain ⟨b, xs, rfl, hb, hxs⟩ := dp_tup hpp
          exact iteF ⟨_, _, _, _, rfl, T8, hs8, hp8, .inr ⟨p, hpp, hw⟩⟩
      · rintro σ H8 ⟨pl, o8, o9, o10, rfl, T8, hs8, hp8, hpl⟩
        -- a place is there
        dsimp only
        refine seq_by (fun σ' H' => ∃ pl o8 o9 o10 o11 o12 o13, σ' = [some (.ref h), some (.int 5), some (.int 6), some (.int 14), some sv2, some pv', some (.int (0 + (k : Int))), some pl, o8, o9, o10, o11, o12, o13] ∧ Step K h H H' ∧
          Dp K (del H' h) sv2 (encPs ss2) ∧ Dp K (del H' h) pv' (encPs ps) ∧ ∃ p, Dp K (del H' h) pl (encP p) ∧ wideP (k + 1) p) ?_ ?_
        · rintro σ' H9 ⟨pl, o8, o9, o10, o11, o12, o13, rfl, T9, hs9, hp9, p, hpp, hw⟩
          refine ⟨_, rfl, _, rfl, (by show 1 ≤ sizeLine; decide), fun q2 hq2 => ?_⟩
          have X9 := Step.same T9.1 (same_upd (o := .tup [pl]) hq2)
          refine catP (h := h) (p := p) (dp_ext X9.2 hp9) (tup_by (o := .tup []) (hand_here T9.1) hq2) (dp_ext X9.2 hpp) (by omega) (hand_here X9.1) fun pv2 H11 S11 hp2 => ?_
          have X11 := X9.trans (Step.same X9.1 S11)
          refine ⟨_, _, ss2, ps ++ [p], _, _, _, _, _, _, _, _, rfl, T9.trans X11, dp_ext X11.2 hs9, hp2, ls2, by rw [List.length_append, lp]; rfl, bs2, fun p' hp' => ?_⟩
          rcases List.mem_append.mp hp' with z | z
          · exact wide_up (bp p' z)
          · cases List.mem_singleton.mp z
            exact hw
        · intro N hN
          refine ⟨_, rfl, rfl, _, rfl, ?_⟩
          rcases hpl with ⟨rfl, hz⟩ | ⟨p, hpp, hw⟩
          · have hk0 : 0 < k := by
              rcases hz with z | z
              · exact absurd z (by decide)
              · exact z
            have E8 := del_sub H8 h
            obtain ⟨sa, xs, rfl, hsa, hxs⟩ := dp_tup (dp_ext E8 hs8)
            obtain ⟨pa, ys, rfl, hpa, hys⟩ := dp_tup (dp_ext E8 hp8)
            have hxl : xs.length = k + 1 := by rw [dpAll_len hxs, List.length_map, ls2]
            have hyl : ys.length = k := by rw [dpAll_len hys, List.length_map, lp]
            refine iteT ⟨_, rfl, _, rfl, pa, sa, ys, xs, rfl, .inr ⟨hpa, hsa, fun D hD => lc_dp (K := K) (walk_zipT (K := K) (a := pa) (b := sa) (xs := ys) (ys := xs) (n := k) (by omega)) ((sumD ps ss2 k).map PyData.int) (by unfold sumD; simp) (le_line (by omega)) hD (fun H9 h9 => ⟨sqT_ext (same_extN (h9.trans (del_sub _ _))) hpa, sqT_ext (same_extN (h9.trans (del_sub _ _))) hsa⟩) yPair_same (fun i x H9 H10 d Qc hd h9 hacc hY hQ => ?_) (fun H9 zs h9 hD9 hds9 => ?_)⟩⟩
            · obtain ⟨t, a1, b1, rfl, ht, rfl, e1, e2⟩ := hY
              have hd' := hd
              unfold sumD at hd'
              rw [List.map_map, List.getElem?_map] at hd'
              by_cases hi : i < k
              · rw [List.getElem?_range hi] at hd'
                cases hd'
                have S10 := h9.trans (del_sub _ _)
                obtain ⟨b2, f1, g1⟩ := encPs_at hys (at2_get (show i < ps.length by omega))
                obtain ⟨b3, f2, g2⟩ := encPs_at hxs (at2_get (show i < ss2.length by omega))
                have e1' : ys[i]? = some a1 := e1
                have e2' : xs[i]? = some b1 := e2
                rw [f1] at e1'
                rw [f2] at e2'
                cases e1'
                cases e2'
                have S11 := S10.trans (same_upd (o := .tup [.ref b2, .ref b3]) ht)
                refine ⟨t, _, rfl, SqT.of upd_same, rfl, _, _, rfl, _, _, rfl, rfl, rfl, ?_⟩
                refine ⟨_, rfl, b2, _, 0, _, rfl, rfl, sqT_ext (same_extN S11) g1, rfl, _, rfl, b3, _, 0, _, rfl, rfl, sqT_ext (same_extN S11) g2, rfl, _, _, rfl, rfl, hQ _ _ (Same.refl _) (.int _)⟩
              · rw [List.getElem?_eq_none (by simp; omega)] at hd'
                cases hd'
            · cases dpAll_ints hds9
              have S9 : Same H8 H9 := h9.trans (del_sub _ _)
              have X9 := Step.same T8.1 S9
              refine ⟨D, _, rfl, SqL.of hD9, by unfold sumD; simp; omega, fun m hm hmx => ?_⟩
              unfold sumD at hm
              obtain ⟨i, hi, em⟩ := List.mem_map.mp hm
              have hi' : i < k := List.mem_range.mp hi
              have b1 := bp _ (at2_mem (show i < ps.length by omega))
              have b2 := bs2 _ (at2_mem (show i < ss2.length by omega))
              obtain ⟨w1, w2, w3, w4⟩ := b1
              obtain ⟨u1, u2, u3, u4⟩ := b2
              refine ⟨_, rfl, _, rfl, h, 2, rfl, X9.1, by decide, by decide, fun H10 a T10 a0 a1 => ⟨_, _, rfl, rfl, _, rfl, h, 4, rfl, T10.1, by decide, by decide, fun H11 b T11 b0 b1 => ⟨_, _, rfl, rfl, (by show 2 ≤ sizeLine; decide), fun r hr2 => ?_⟩⟩⟩
              have X12 := Step.same T11.1 (same_upd (o := .tup [V.int (m + a), V.int (b - 1)]) hr2)
              have X := X9.trans (T10.trans (T11.trans X12))
              refine hN _ _ ⟨_, _, _, _, _, _, _, rfl, T8.trans X, dp_ext X.2 hs8, dp_ext X.2 hp8, (m + a, b - 1), .tup (tup_by (o := .tup []) (hand_here T11.1) hr2) (ints_dpAll [m + a, b - 1]), ?_⟩
              exact ⟨by show -10 ≤ m + a; omega, by show m + a ≤ _; omega, by show -10 ≤ b - 1; omega, by show b - 1 ≤ 10; omega⟩
          · obtain ⟨b, xs, rfl, hb, hxs⟩ := dp_tup hpp
            exact iteF (hN _ _ ⟨_, _, _, _, _, _, _, rfl, T8, hs8, hp8, p, hpp, hw⟩)
    · rintro σ H4 ⟨sv, pv', ss, ps, o6, o7, o8, o9, o10, o11, o12, o13, rfl, T4, hs, hp, ls, lp, bs, bp⟩
      refine ⟨_, rfl, _, rfl, (by show 2 ≤ sizeLine; decide), fun t ht => ?_⟩
      have X := Step.same T4.1 (same_upd (o := .tup [sv, pv']) ht)
      refine q _ t sv pv' ss ps (T4.trans X) (tup_by (o := .tup []) (hand_here T4.1) ht) (dp_ext X.2 hs) (dp_ext X.2 hp) (by omega) (by omega) (by omega) bs fun p hp' => ?_
      obtain ⟨a, b, c, d⟩ := bp p hp'
      exact ⟨a, by omega, c, d⟩
end
end K45

namespace K45
open PySem PySem.Spec PyProof.Rows L2
def strOf (i : Int) : Str := PySem.Str.ofString (toString i)
def lineOf (s p : II) : Str := ("box " : Str) ++ Txt.join sSp ([s.1, s.2, p.1, p.2].map strOf)
theorem strOf_len {i : Int} (h : i.natAbs < 1000000000) : (strOf i).length ≤ 10 := int_len h
theorem lineOf_len {s p : II} (h1 : smallS s) (h2 : wideP 5 p) : (lineOf s p).length ≤ 48 := by
  obtain ⟨a, b, c, d⟩ := h1
  obtain ⟨a', b', c', d'⟩ := h2
  unfold lineOf
  rw [len_app]
  have h := join_sp ([s.1, s.2, p.1, p.2].map strOf)
  have e1 := strOf_len (i := s.1) (by omega)
  have e2 := strOf_len (i := s.2) (by omega)
  have e3 := strOf_len (i := p.1) (by omega)
  have e4 := strOf_len (i := p.2) (by omega)
  have e5 : (("box " : Str)).length = 4 := by decide +kernel
  simp only [List.map_cons, List.map_nil, tot_cons, tot_nil] at h ⊢
  omega
theorem log_small {i : Int} (h : i.natAbs < 1900) : i.natAbs.log2 < 1920 := Nat.lt_of_le_of_lt (Nat.log2_le_self _) (by omega)
section
variable {P : Program} {w : World} {K : PySem.W.Frag} {mg : Str → Option Value} {base : Heap}
def rJoinK (K : PySem.W.Frag) : V → List V → Hp → VK → Prop := fun x xs H Q => ∃ a p, ∃ ys : List Str, x = .str a ∧ xs = [.ref p] ∧ (SqL K H p (ys.map V.str) ∨ SqT K H p (ys.map V.str)) ∧ (ys.map (·.length)).sum + ys.length * a.length ≤ 16777216 ∧ Q (.str (Txt.join a ys)) H
theorem pe_joinK {X : Cx} {K : PySem.W.Frag} {o e : Expr} {to te : TE} {apos pos : Pos} (hK : X.K = K) (ho : PE X o to) (he : PE X e te) (hs : starEach [e] X.env = [(false, eval e X.env)] := by rfl) (hbase : attributeBase o "join" X.env (eval o X.env) = eval o X.env := by rfl) (hline : (apos.endLine == pos.line) = true := by rfl) :
    PE X (.Call (.Attribute o "join" apos) [e] [] pos) (tM1 (rJoinK K) to te) := by
  subst hK
  exact pe_join ho he hs hbase hline
theorem pi_tupK {X : Cx} {K : PySem.W.Frag} {tg l : Expr} {tl : TE} (hK : X.K = K) (hl : PE X l tl) : PI X tg l (iTup K tl) := by
  subst hK
  exact pi_tup hl
theorem blk_any {N : List Str} {sc scope : Scope} {own : List (Str × Nat)} (sc' : Scope) (h : blkC N sc' scope own = true) (hf : scope.names.all (fun y => match y.2 with | .free => false | _ => true) = true) : BlkOk N sc scope own := by
  apply blkOk_by
  unfold blkC at h ⊢
  simp only [Bool.and_eq_true, List.all_eq_true] at h hf ⊢
  obtain ⟨h1, h4⟩ := h
  refine ⟨h1, fun y hy => ?_⟩
  have a := h4 y hy
  have b := hf y hy
  revert a b
  cases y.2 <;> intro a b <;> first | exact a | (cases b)
def linesOfP (ss ps : List II) : List Str := (List.range ss.length).map fun i => lineOf (at2 ss i) (at2 ps i)
theorem linesOfP_tot {ss ps : List II} (hl : ss.length = ps.length) (h1 : ∀ s ∈ ss, smallS s) (h2 : ∀ p ∈ ps, wideP 5 p) (h5 : ss.length ≤ 5) : tot (linesOfP ss ps) ≤ 300 := by
  have key : ∀ l : List Str, (∀ x ∈ l, x.length ≤ 48) → tot l ≤ 49 * l.length := by
    intro l
    induction l with
    | nil => intro _; simp [tot_nil]
    | cons x l ih =>
      intro h
      rw [tot_cons, List.length_cons]
      have e1 := h x List.mem_cons_self
      have e2 := ih fun y hy => h y (List.mem_cons_of_mem _ hy)
      omega
  have hk := key (linesOfP ss ps) fun x hx => by
    unfold linesOfP at hx
    obtain ⟨i, hi, rfl⟩ := List.mem_map.mp hx
    have hi' := List.mem_range.mp hi
    exact lineOf_len (h1 _ (at2_mem hi')) (h2 _ (at2_mem (by omega)))
  have : (linesOfP ss ps).length = ss.length := by unfold linesOfP; simp
  omega
def spLinesP (K : PySem.W.Frag) : Sp := fun vs H Q _ => ∃ (sv pv : V) (ss ps : List II), vs = [sv, pv] ∧ Dp K H sv (encPs ss) ∧ Dp K H pv (encPs ps) ∧ ss.length = ps.length ∧ ss.length ≤ 5 ∧ (∀ s ∈ ss, smallS s) ∧ (∀ p ∈ ps, wideP 5 p) ∧
  ∀ H' l ls, Same H H' → H l = none → H' l = some (.lst (ls.map V.str)) → tot ls ≤ 300 → Q (.ref l) H'
theorem ok_law_picture_lines (T : Txt K mg) : CalX P w K mg base CX0 1 "_law_picture_lines" (spLinesP K) := by
  obtain ⟨fd, F⟩ := T.d__law_picture_lines
  have sc : FnScope ["_law_sizes", "_law_places", "_law_size", "_law_place", "_law_part"] ["_law_sizes", "_law_places"] (defScope (top 53)) := C8.fnScope_by (by decide +kernel)
  refine mk_cal0 ["_law_sizes", "_law_places", "_law_size", "_law_place", "_law_part"] ["_law_sizes", "_law_places"] F T.g__law_picture_lines sc (fun _ _ _ _ _ _ us hl => match us, hl with | [_, _], _ => rfl) (fun vs H Q E h => ?_) (fun cdv A outer s H vs Q E hr h => ⟨_,
      pss_one (ps_ret (pe_lc (own := [("_law_size", 2), ("_law_place", 3)]) (g := gTup K 2 (gCons (gName 2) (gCons (gName 3) gNil))) (tt := tYes) rfl sc.nd (RZ.pi_zipA rfl T.f_zip (pa_cons (pv 0) (pa_cons (pv 1) pa_nil)))
          (blkOk_by (own := [("_law_size", 2), ("_law_place", 3)]) (N := ["_law_sizes", "_law_places", "_law_size", "_law_place", "_law_part"]) (sc := defScope (top 53)) (by decide +kernel))
          (fun _ _ _ _ _ => pg_tup rfl (pgs_cons (pg_name (i := 2) sc.nd rfl (Or.inl rfl)) (pgs_cons (pg_name (i := 3) sc.nd rfl (Or.inl rfl)) pgs_nil))) (fun _ _ _ _ _ => pts_nil)
          (fun _ _ _ _ _ => pe_op op_add_str pe_str (pe_joinK (K := K) rfl pe_str (pe_lc (own := [("_law_part", 4)]) (g := gName 4) (tt := tYes) rfl sc.nd (pi_tupK (K := K) rfl (pe_op (show OpR _ _ (rCatT K) from op_catT) (pv 2) (pv 3))) (blk_any (own := [("_law_part", 4)]) (N := ["_law_sizes", "_law_places", "_law_size", "_law_place", "_law_part"]) (defScope (top 53)) (by decide +kernel) (by decide +kernel))
            (fun _ _ _ _ _ => pg_name (i := 4) sc.nd rfl (Or.inl rfl)) (fun _ _ _ _ _ => pts_nil) (fun _ _ _ _ _ => pe_callTy call_str_int rfl T.f_str (by decide +kernel) (pa_cons (pv 4) pa_nil))))))), ?_⟩)
  · obtain ⟨sv, pv', ss, ps, rfl, _⟩ := h; rfl
  · obtain ⟨sv, pv', ss, ps, rfl, hs, hp, hl, h5, bs, bp, q⟩ := h
    obtain ⟨sa, xs, rfl, hsa, hxs⟩ := dp_tup hs
    obtain ⟨pa, ys, rfl, hpa, hys⟩ := dp_tup hp
    have hxl : xs.length = ss.length := by rw [dpAll_len hxs, List.length_map]
    have hyl : ys.length = ps.length := by rw [dpAll_len hys, List.length_map]
    refine ⟨_, rfl, _, rfl, sa, pa, xs, ys, rfl, .inr ⟨hsa, hpa, fun D hD => lc_dp (K := K) (walk_zipT (K := K) (a := sa) (b := pa) (xs := xs) (ys := ys) (n := ss.length) (by omega)) ((linesOfP ss ps).map PyData.str) (by unfold linesOfP; simp) (le_line (by omega)) hD (fun H9 h9 => ⟨sqT_ext (same_extN (h9.trans (del_sub _ _))) hsa, sqT_ext (same_extN (h9.trans (del_sub _ _))) hpa⟩) yPair_same (fun i x H9 H10 d Qc hd h9 hacc hY hQ => ?_) (fun H9 zs h9 hD9 hds9 => ?_)⟩⟩
    · obtain ⟨t, a1, b1, rfl, ht, rfl, e1, e2⟩ := hY
      have hd' := hd
      unfold linesOfP at hd'
      rw [List.map_map, List.getElem?_map] at hd'
      by_cases hi : i < ss.length
      · rw [List.getElem?_range hi] at hd'
        cases hd'
        obtain ⟨acc, hacc⟩ := hacc
        have S9 : Same H H9 := h9.trans (del_sub _ _)
        obtain ⟨b2, f1, g1⟩ := encPs_at hxs (at2_get hi)
        obtain ⟨b3, f2, g2⟩ := encPs_at hys (at2_get (show i < ps.length by omega))
        have e1' : xs[i]? = some a1 := e1
        have e2' : ys[i]? = some b1 := e2
        rw [f1] at e1'
        rw [f2] at e2'
        cases e1'
        cases e2'
        have R1 := same_upd (o := .tup [.ref b2, .ref b3]) ht
        have S11 := S9.trans R1
        have bs1 := bs _ (at2_mem hi)
        have bp1 := bp _ (at2_mem (show i < ps.length by omega))
        refine ⟨t, _, rfl, SqT.of upd_same, rfl, _, _, rfl, _, _, rfl, rfl, rfl, ?_⟩
        refine ⟨⟨_, rfl⟩, _, rfl, _, rfl, b2, b3, _, _, rfl, rfl, sqT_ext (same_extN S11) g1, sqT_ext (same_extN S11) g2, (List.cons_ne_nil _ _), (by show 4 ≤ sizeLine; decide), (fun z => absurd z (List.cons_ne_nil _ _)), fun _ pn hpn => ?_⟩
        have R2 := same_upd (o := .tup ([V.int (at2 ss i).1, V.int (at2 ss i).2] ++ [V.int (at2 ps i).1, V.int (at2 ps i).2])) hpn
        have hpn4 : (upd (upd H9 t (.tup [.ref b2, .ref b3])) pn (.tup ([V.int (at2 ss i).1, V.int (at2 ss i).2] ++ [V.int (at2 ps i).1, V.int (at2 ps i).2]))) pn = some (.tup ([(at2 ss i).1, (at2 ss i).2, (at2 ps i).1, (at2 ps i).2].map V.int)) := upd_same
        have R12 := R1.trans R2
        generalize upd (upd H9 t (.tup [.ref b2, .ref b3])) pn (.tup ([V.int (at2 ss i).1, V.int (at2 ss i).2] ++ [V.int (at2 ps i).1, V.int (at2 ps i).2])) = H10 at *
        have small : ∀ n ∈ [(at2 ss i).1, (at2 ss i).2, (at2 ps i).1, (at2 ps i).2], n.natAbs < 1000 := fun n hn => by
          obtain ⟨a, b, c, d⟩ := bs1
          obtain ⟨a', b', c', d'⟩ := bp1
          simp only [List.mem_cons, List.not_mem_nil, or_false] at hn
          omega
        have lens := lineOf_len bs1 bp1
        have totl : tot ([(at2 ss i).1, (at2 ss i).2, (at2 ps i).1, (at2 ps i).2].map strOf) ≤ 44 := by
          obtain ⟨a, b, c, d⟩ := bs1
          obtain ⟨a', b', c', d'⟩ := bp1
          have e1 := strOf_len (i := (at2 ss i).1) (by omega)
          have e2 := strOf_len (i := (at2 ss i).2) (by omega)
          have e3 := strOf_len (i := (at2 ps i).1) (by omega)
          have e4 := strOf_len (i := (at2 ps i).2) (by omega)
          simp only [List.map_cons, List.map_nil, tot_cons, tot_nil]
          omega
        have hQ3 : ∀ y H4, Same _ H4 → Dp K (del H4 D) y (.str (lineOf (at2 ss i) (at2 ps i))) → Qc y H4 := hQ
        unfold lineOf at hQ3 lens
        generalize [(at2 ss i).1, (at2 ss i).2, (at2 ps i).1, (at2 ps i).2] = ns at *
        refine ⟨pn, rfl, ⟨_, SqT.of hpn4⟩, fun D2 hD2 => lc_dp (K := K) (walk_tup (K := K) (a := pn) (xs := ns.map V.int)) ((ns.map strOf).map PyData.str) (by simp) (le_line (by rw [List.length_map]; have := tot_len (ns.map strOf); rw [List.length_map] at this; omega)) hD2 (fun H11 h11 => SqT.of (del_sub _ _ _ _ (h11 _ _ hpn4))) yAt_same (fun j x H11 H12 d Qc2 hd h11 hacc2 hY hQ2 => ?_) (fun H11 zs h11 hD11 hds11 => ?_)⟩
        · obtain ⟨rfl, hx⟩ := hY
          have hx' : (ns.map V.int)[j]? = some x := hx
          rw [List.getElem?_map] at hx'
          rw [List.getElem?_map, List.getElem?_map] at hd
          cases en : ns[j]? with
          | none => rw [en] at hx'; cases hx'
          | some n =>
            rw [en] at hx' hd
            cases hx'
            cases hd
            exact ⟨rfl, _, rfl, n, rfl, log_small (by have := small n (List.mem_of_getElem? en); omega), hQ2 _ _ (Same.refl _) (.str _)⟩
        · cases dpAll_strs hds11
          refine ⟨_, D2, ns.map strOf, rfl, rfl, .inl (SqL.of hD11), ?_, _, _, rfl, rfl, ?_, ?_⟩
          · have := tot_sum (ns.map strOf)
            have e1 : ((" " : Str)).length = 1 := by decide +kernel
            rw [e1]
            omega
          · rw [← len_app]
            exact le_line (Nat.le_trans lens (by decide))
          · exact hQ3 _ _ (R2.trans (h11.trans (del_sub _ _))) (.str _)
      · rw [List.getElem?_eq_none (by simp; omega)] at hd'
        cases hd'
    · cases dpAll_strs hds9
      exact q H9 D _ (h9.trans (del_sub _ _)) hD hD9 (linesOfP_tot hl bs bp h5)
end
end K45

namespace K45
open PySem PySem.Spec PyProof.Rows L2
/-! ### expressions that make lists of texts -/
def RL (H : Hp) (n : Nat) (v : V) : Prop := ∃ (a : Addr) (ws : List Str), v = .ref a ∧ H a = some (.lst (ws.map V.str)) ∧ tot ws ≤ n
theorem RL.ext {H H' : Hp} {n : Nat} {v : V} (e : Same H H') (r : RL H n v) : RL H' n v := by
  obtain ⟨a, ws, e1, e2, e3⟩ := r
  exact ⟨a, ws, e1, e _ _ e2, e3⟩
theorem RL.mono {H : Hp} {n m : Nat} {v : V} (h : n ≤ m) (r : RL H n v) : RL H m v := by
  obtain ⟨a, ws, e1, e2, e3⟩ := r
  exact ⟨a, ws, e1, e2, Nat.le_trans e3 h⟩
theorem strs_hand {K : PySem.W.Frag} {H : Hp} {h a : Addr} {ws : List Str} (x : HandAt K H h) (e : H a = some (.lst (ws.map V.str))) : a ≠ h := fun z => by
  obtain ⟨c, i, b, s, k, ns, x⟩ := x
  have := x.at_
  rw [← z, e] at this
  cases ws with
  | nil => cases this
  | cons w ws => cases this
theorem RL.step {K : PySem.W.Frag} {H H' : Hp} {h : Addr} {n : Nat} {v : V} (x : HandAt K H h) (st : Step K h H H') (r : RL H n v) : RL H' n v := by
  obtain ⟨a, ws, e1, e2, e3⟩ := r
  exact ⟨a, ws, e1, del_sub _ _ _ _ (st.2 _ _ (by rw [del_ne (strs_hand x e2)]; exact e2)), e3⟩
def GivesL (te : TE) (σ : L2.St) (H : Hp) (n : Nat) : Prop := ∀ Q : VK, (∀ v H', Same H H' → RL H' n v → Q v H') → te σ H Q
def GivesS (te : TE) (σ : L2.St) (H : Hp) (n : Nat) : Prop := ∀ Q : VK, (∀ s : Str, s.length ≤ n → Q (.str s) H) → te σ H Q
def GivesI (te : TE) (σ : L2.St) : Prop := ∀ (H : Hp) (Q : VK), (∀ i, Q (.int i) H) → te σ H Q
def PartOk (t : TO) (σ : L2.St) : Prop := ∀ (H : Hp) (Q : Option Int → Hp → Prop), (∀ o, Q o H) → t σ H Q
def GivesAll (t : TA) (σ : L2.St) (H : Hp) (n k : Nat) : Prop := ∀ Q : List V → Hp → Prop, (∀ vs H', Same H H' → vs.length = k → (∀ x ∈ vs, RL H' n x) → Q vs H') → t σ H Q
section
variable {K : PySem.W.Frag} {ta tb te : TE} {t : TA} {σ : L2.St} {H : Hp} {n m k : Nat}
theorem gl_cat (hb0 : n + m ≤ 1000000) (ha : GivesL ta σ H n) (hb : ∀ H', Same H H' → GivesL tb σ H' m) : GivesL (tOp rCat ta tb) σ H (n + m) := fun Q q => ha _ fun x H1 S1 r1 => hb H1 S1 _ fun y H2 S2 r2 => by
  obtain ⟨a, xs, rfl, e1, t1⟩ := r1.ext S2
  obtain ⟨b, ys, rfl, e2, t2⟩ := r2
  have l1 := tot_len xs
  have l2 := tot_len ys
  exact ⟨a, b, _, _, rfl, rfl, e1, e2, le_line (by rw [List.length_map, List.length_map]; omega), fun p hp => q _ _ (S1.trans (S2.trans (same_upd hp))) ⟨p, xs ++ ys, rfl, by rw [List.map_append]; exact upd_same, by rw [tot_app]; omega⟩⟩
theorem gl_var {i : Nat} {v : V} (e : σ[i]? = some (some v)) (r : RL H n v) : GivesL (tVar i) σ H n := fun Q q => ⟨v, e, q _ _ (Same.refl _) r⟩
theorem cut_strs (ws : List Str) (lo hi : Option Int) : ∃ us : List Str, cutV (ws.map V.str) lo hi = us.map V.str ∧ tot us ≤ tot ws := by
  unfold cutV
  rw [List.length_map]
  refine ⟨(ws.drop (HT.sIx ws.length 0 lo)).take (HT.sIx ws.length ws.length hi - HT.sIx ws.length 0 lo), ?_, ?_⟩
  · rw [List.map_take, List.map_drop]
  · exact Nat.le_trans (tot_take _ _) (tot_drop _ _)
theorem gl_slice {tl tu : TO} (ha : GivesL te σ H n) (hl : PartOk tl σ) (hu : PartOk tu σ) : GivesL (tSl (rSlL K) te tl tu) σ H n := fun Q q => ha _ fun x H1 S1 r1 => hl _ _ fun lo => hu _ _ fun hi => by
  obtain ⟨a, xs, rfl, e1, t1⟩ := r1
  obtain ⟨us, e2, e3⟩ := cut_strs xs lo hi
  exact ⟨a, _, rfl, SqL.of e1, fun p hp => q _ _ (S1.trans (same_upd hp)) ⟨p, us, rfl, by rw [e2]; exact upd_same, Nat.le_trans e3 t1⟩⟩
theorem part_no : PartOk tNoPart σ := fun _ _ q => q none
theorem part_by (h : GivesI te σ) : PartOk (tPart te) σ := fun H Q q => h H _ fun i => ⟨i, rfl, q _⟩
theorem gi_c {i : Int} : GivesI (tC (.int i)) σ := fun _ _ q => q i
theorem gi_var {i : Nat} {j : Int} (e : σ[i]? = some (some (.int j))) : GivesI (tVar i) σ := fun _ _ q => ⟨_, e, q j⟩
theorem gi_add {a b : TE} (ha : GivesI a σ) (hb : GivesI b σ) : GivesI (tOp (rI0 fun i j => .int (i + j)) a b) σ := fun H Q q => ha _ _ fun i => hb _ _ fun j => ⟨i, j, rfl, rfl, q _⟩
theorem gs_c {s : Str} (h : s.length ≤ n) : GivesS (tC (.str s)) σ H n := fun _ q => q s h
theorem gs_var {i : Nat} {s : Str} (e : σ[i]? = some (some (.str s))) (h : s.length ≤ n) : GivesS (tVar i) σ H n := fun _ q => ⟨_, e, q s h⟩
theorem gl_one (h : GivesS te σ H n) : GivesL (tLst (tCons te tNil)) σ H (n + 1) := fun Q q => h _ fun s hs => ⟨(by show 1 ≤ sizeLine; decide), fun p hp => q _ _ (same_upd hp) ⟨p, [s], rfl, upd_same, by rw [tot_cons, tot_nil]; omega⟩⟩
theorem gl_mono {n' : Nat} (h : GivesL te σ H n) (e : n ≤ n') : GivesL te σ H n' := fun Q q => h _ fun v H' S r => q v H' S (r.mono e)
theorem ga_nil : GivesAll tNil σ H n 0 := fun _ q => q [] H (Same.refl _) rfl fun x hx => (List.not_mem_nil hx).elim
theorem ga_cons (ha : GivesL te σ H n) (hb : ∀ H', Same H H' → GivesAll t σ H' n k) : GivesAll (tCons te t) σ H n (k + 1) := fun Q q => ha _ fun v H1 S1 r1 => hb H1 S1 _ fun vs H2 S2 l2 r2 => q _ _ (S1.trans S2) (by rw [List.length_cons, l2]) fun x hx => by
  rcases List.mem_cons.mp hx with e | hx
  · subst e; exact r1.ext S2
  · exact r2 x hx
end
def shortV : V → Bool
  | .str s => decide (s.length ≤ 20)
  | _ => false
theorem short_of {xs : List V} (h : xs.all shortV = true) {x : V} (hx : x ∈ xs) : ∃ s, x = .str s ∧ s.length ≤ 20 := by
  have := List.all_eq_true.mp h x hx
  cases x with
  | str s => exact ⟨s, rfl, of_decide_eq_true this⟩
  | _ => cases this
/-! lists of short texts, lists of lists -/
def SL (H : Hp) (k : Nat) (v : V) : Prop := ∃ (a : Addr) (xs : List V), v = .ref a ∧ H a = some (.lst xs) ∧ xs.length = k ∧ xs.all shortV = true
def RLs (H : Hp) (n k : Nat) (v : V) : Prop := ∃ (a : Addr) (xs : List V), v = .ref a ∧ H a = some (.lst xs) ∧ xs.length = k ∧ ∀ x ∈ xs, RL H n x
theorem SL.ext {H H' : Hp} {k : Nat} {v : V} (e : Same H H') (r : SL H k v) : SL H' k v := by
  obtain ⟨a, ws, e1, e2, e3⟩ := r
  exact ⟨a, ws, e1, e _ _ e2, e3⟩
theorem RLs.ext {H H' : Hp} {n k : Nat} {v : V} (e : Same H H') (r : RLs H n k v) : RLs H' n k v := by
  obtain ⟨a, ws, e1, e2, e3, e4⟩ := r
  exact ⟨a, ws, e1, e _ _ e2, e3, fun x hx => (e4 x hx).ext e⟩
def GivesSh (te : TE) (σ : L2.St) (H : Hp) (k : Nat) : Prop := ∀ Q : VK, (∀ v H', Same H H' → SL H' k v → Q v H') → te σ H Q
def GivesR (te : TE) (σ : L2.St) (H : Hp) (n k : Nat) : Prop := ∀ Q : VK, (∀ v H', Same H H' → RLs H' n k v → Q v H') → te σ H Q
section
variable {K : PySem.W.Frag} {ta tb te : TE} {t : TA} {g : TG} {u : TS} {D : Ends} {σ : L2.St} {H : Hp} {n m k : Nat}
theorem gsh_lst {xs : List V} (ht : ∀ Q : List V → Hp → Prop, t σ H Q = Q xs H) (hs : xs.all shortV = true) (hl : xs.length = k) (hz : k ≤ 1000) : GivesSh (tLst t) σ H k := fun Q q => by
  show t σ H _
  rw [ht]
  exact ⟨le_line (by omega), fun p hp => q _ _ (same_upd hp) ⟨p, xs, rfl, upd_same, hl, hs⟩⟩
theorem gsh_var {i : Nat} {v : V} (e : σ[i]? = some (some v)) (r : SL H k v) : GivesSh (tVar i) σ H k := fun Q q => ⟨v, e, q _ _ (Same.refl _) r⟩
theorem gsh_cat (hz : k + m ≤ 1000) (ha : GivesSh ta σ H k) (hb : ∀ H', Same H H' → GivesSh tb σ H' m) : GivesSh (tOp rCat ta tb) σ H (k + m) := fun Q q => ha _ fun x H1 S1 r1 => hb H1 S1 _ fun y H2 S2 r2 => by
  obtain ⟨a, xs, rfl, e1, t1, u1⟩ := r1.ext S2
  obtain ⟨b, ys, rfl, e2, t2, u2⟩ := r2
  exact ⟨a, b, _, _, rfl, rfl, e1, e2, le_line (by omega), fun p hp => q _ _ (S1.trans (S2.trans (same_upd hp))) ⟨p, xs ++ ys, rfl, upd_same, by rw [List.length_append]; omega, by rw [List.all_append, u1, u2]; rfl⟩⟩
theorem gr_lst (hz : k ≤ 1000) (h : GivesAll t σ H n k) : GivesR (tLst t) σ H n k := fun Q q => h _ fun vs H1 S1 l1 r1 => ⟨le_line (by omega), fun p hp => q _ _ (S1.trans (same_upd hp)) ⟨p, vs, rfl, upd_same, l1, fun x hx => (r1 x hx).ext (same_upd hp)⟩⟩
theorem gr_var {i : Nat} {v : V} (e : σ[i]? = some (some v)) (r : RLs H n k v) : GivesR (tVar i) σ H n k := fun Q q => ⟨v, e, q _ _ (Same.refl _) r⟩
theorem gr_cat (hz : k + m ≤ 1000) (ha : GivesR ta σ H n k) (hb : ∀ H', Same H H' → GivesR tb σ H' n m) : GivesR (tOp rCat ta tb) σ H n (k + m) := fun Q q => ha _ fun x H1 S1 r1 => hb H1 S1 _ fun y H2 S2 r2 => by
  obtain ⟨a, xs, rfl, e1, t1, u1⟩ := r1.ext S2
  obtain ⟨b, ys, rfl, e2, t2, u2⟩ := r2
  refine ⟨a, b, _, _, rfl, rfl, e1, e2, le_line (by omega), fun p hp => q _ _ (S1.trans (S2.trans (same_upd hp))) ⟨p, xs ++ ys, rfl, upd_same, by rw [List.length_append]; omega, fun x hx => ?_⟩⟩
  rcases List.mem_append.mp hx with z | z
  · exact (u1 x z).ext (same_upd hp)
  · exact (u2 x z).ext (same_upd hp)
theorem gl_ix {i : Nat} {v : V} (e : σ[i]? = some (some v)) (r : RLs H n k v) (hk : 0 < k) : GivesL (tOp (rIxL K) (tVar i) (tC (.int 0))) σ H n := fun Q q => by
  obtain ⟨a, xs, rfl, e1, t1, u1⟩ := r
  cases xs with
  | nil => simp at t1; omega
  | cons x xs => exact ⟨_, e, a, _, 0, x, rfl, rfl, SqL.of e1, atI_nat (j := 0) rfl, q x H (Same.refl _) (u1 x List.mem_cons_self)⟩
theorem gs_ix {i : Nat} {v : V} (e : σ[i]? = some (some v)) (r : ∃ (a : Addr) (w0 : Str) (ws : List Str), v = .ref a ∧ H a = some (.lst ((w0 :: ws).map V.str)) ∧ w0.length ≤ n) : GivesS (tOp (rIxL K) (tVar i) (tC (.int 0))) σ H n := fun Q q => by
  obtain ⟨a, w0, ws, rfl, e1, e2⟩ := r
  exact ⟨_, e, a, _, 0, .str w0, rfl, rfl, SqL.of e1, atI_nat (j := 0) rfl, q w0 e2⟩
theorem gs_upper (h : GivesS te σ H n) (hn : n ≤ 1000000) : GivesS (tM0 (fun x xs H Q => ∃ a, x = .str a ∧ xs = [] ∧ a.length ≤ 5592405 ∧ Q (.str (Txt.upper a)) H) te) σ H (3 * n) := fun Q q => h _ fun s hs => ⟨⟨s, rfl⟩, s, rfl, rfl, by omega, q _ (by have := PyProof.Rows.len_upper s; omega)⟩
theorem seq_sh (hg : GivesSh te σ H k) (q : ∀ v H', Same H H' → SL H' k v → g v σ H' (u D)) : tSeq (tAsg te g) u D σ H := hg _ q
theorem seq_r (hg : GivesR te σ H n k) (q : ∀ v H', Same H H' → RLs H' n k v → g v σ H' (u D)) : tSeq (tAsg te g) u D σ H := hg _ q
theorem seq_l (hg : GivesL te σ H n) (q : ∀ v H', Same H H' → RL H' n v → g v σ H' (u D)) : tSeq (tAsg te g) u D σ H := hg _ q
theorem sl_hand {h : Addr} {v : V} (x : HandAt K H h) (r : SL H k v) : ∃ a xs, v = .ref a ∧ SqL K (del H h) a xs ∧ xs.length = k ∧ xs.all shortV = true := by
  obtain ⟨a, xs, e1, e2, e3, e4⟩ := r
  have : a ≠ h := fun z => by
    obtain ⟨c, i, b, s, k2, ns, x⟩ := x
    have e5 := x.at_
    rw [← z, e2] at e5
    cases e5
    cases e4
  exact ⟨a, xs, e1, SqL.of (by rw [del_ne this]; exact e2), e3, e4⟩
theorem rls_hand {h : Addr} {v : V} (x : HandAt K H h) (r : RLs H n k v) : ∃ a xs, v = .ref a ∧ SqL K (del H h) a xs ∧ xs.length = k ∧ ∀ x ∈ xs, RL H n x := by
  obtain ⟨a, xs, e1, e2, e3, e4⟩ := r
  have : a ≠ h := fun z => by
    obtain ⟨c, i, b, s, k2, ns, x⟩ := x
    have e5 := x.at_
    rw [← z, e2] at e5
    cases e5
    obtain ⟨a2, ws2, z2, _⟩ := e4 (.int i) (by simp)
    cases z2
  exact ⟨a, xs, e1, SqL.of (by rw [del_ne this]; exact e2), e3, e4⟩
end
section
variable {P : Program} {w : World} {K : PySem.W.Frag} {mg : Str → Option Value} {base : Heap}
def spBentL (K : PySem.W.Frag) : Sp := fun vs H Q _ => ∃ (h : Addr) (line : Str), vs = [.ref h, .str line] ∧ HandAt K H h ∧ line.length ≤ 100000 ∧ ∀ H' z, Step K h H H' → z.length ≤ 4 * line.length + 50 → Q (.str z) H'
theorem ok_law_bent_line (T : Txt K mg) : CalX P w K mg base CX0 3 "_law_bent_line" (spBentL K) := by
  obtain ⟨fd, F⟩ := T.d__law_bent_line
  have sc : FnScope ["_law_hand_here", "_law_line", "_law_words", "_law_at", "_law_some", "_law_word", "_law_rows"] ["_law_hand_here", "_law_line"] (defScope (top 60)) := C8.fnScope_by (by decide +kernel)
  refine mk_cal0 ["_law_hand_here", "_law_line", "_law_words", "_law_at", "_law_some", "_law_word", "_law_rows"] ["_law_hand_here", "_law_line"] F T.g__law_bent_line sc (fun _ _ _ _ _ _ us hl => match us, hl with | [_, _], _ => rfl) (fun vs H Q E h => ?_) (fun cdv A outer s H vs Q E hr h => ⟨_,
      pss_cons (ps_set (i := 2) sc.nd rfl (Or.inl rfl) (pe_split (pv 1) pe_str))
      (pss_cons (ps_set (i := 3) sc.nd rfl (Or.inl rfl) (pe_0 (ok_law_draw T) hr (by decide) rfl (pa_cons (pv 0) (pa_cons (pe_callB call_len rfl T.f_len boot_len (pa_cons (pv 2) pa_nil)) pa_nil))))
      (pss_cons (ps_set (i := 4) sc.nd rfl (Or.inl rfl) (pe_lst (pa_cons pe_str (pa_cons pe_str (pa_cons pe_str (pa_cons pe_str (pa_cons pe_str (pa_cons pe_str (pa_cons pe_str (pa_cons pe_str (pa_cons pe_str (pa_cons pe_str (pa_cons pe_str (pa_cons pe_str (pa_cons pe_str (pa_cons pe_str (pa_cons pe_str (pa_cons pe_str pa_nil))))))))))))))))))
      (pss_cons (ps_set (i := 5) sc.nd rfl (Or.inl rfl) (pe_0 (ok_law_any T) hr (by decide) rfl (pa_cons (pv 0) (pa_cons (pe_op op_cat (pv 4) (pe_lst (pa_cons pe_str (pa_cons pe_str (pa_cons pe_str (pa_cons pe_str (pa_cons pe_str (pa_cons pe_str (pa_cons pe_str (pa_cons pe_str pa_nil)))))))))) pa_nil))))
      (pss_cons (ps_set (i := 6) sc.nd rfl (Or.inl rfl) (pe_lst (pa_cons (pe_op op_cat (pe_op op_cat (pe_slice sl_list (pv 2) po_none (po_some (pv 3))) (pe_lst (pa_cons (pv 5) pa_nil))) (pe_slice sl_list (pv 2) (po_some (pe_op op_add (pv 3) pe_int)) po_none))
        (pa_cons (pe_op op_cat (pe_op op_cat (pe_slice sl_list (pv 2) po_none (po_some (pv 3))) (pe_lst (pa_cons (pv 5) pa_nil))) (pe_slice sl_list (pv 2) (po_some (pv 3)) po_none))
        (pa_cons (pe_op op_cat (pe_slice sl_list (pv 2) po_none (po_some (pv 3))) (pe_slice sl_list (pv 2) (po_some (pe_op op_add (pv 3) pe_int)) po_none)) pa_nil)))))
      (pss_cons (ps_set (i := 6) sc.nd rfl (Or.inl rfl) (pe_op op_cat (pv 6) (pe_lst (pa_cons (pe_op op_cat (pv 2) (pe_lst (pa_cons (pv 5) pa_nil)))
        (pa_cons (pe_op op_cat (pv 2) (pe_lst (pa_cons pe_str pa_nil)))
        (pa_cons (pe_op op_cat (pe_lst (pa_cons pe_str pa_nil)) (pv 2))
        (pa_cons (pe_op op_cat (pe_lst (pa_cons (pe_upper (pe_ix ix_list (pv 2) pe_int (fun _ _ => rfl))) pa_nil)) (pe_slice sl_list (pv 2) (po_some pe_int) po_none))
        (pa_cons (pe_lst (pa_cons (pv 5) pa_nil))
        (pa_cons (pe_lst (pa_cons (pe_ix ix_list (pv 2) pe_int (fun _ _ => rfl)) pa_nil)) pa_nil)))))))))
      (pss_one (ps_ret (pe_join pe_str (pe_0 (ok_law_any T) hr (by decide) rfl (pa_cons (pv 0) (pa_cons (pe_op op_cat (pv 6) (pe_lst (pa_cons (pe_ix ix_list (pv 6) pe_int (fun _ _ => rfl)) (pa_cons (pe_ix ix_list (pv 6) pe_int (fun _ _ => rfl)) (pa_cons (pe_ix ix_list (pv 6) pe_int (fun _ _ => rfl)) pa_nil))))) pa_nil))))))))))), ?_⟩)
  · obtain ⟨h, line, rfl, _⟩ := h; rfl
  · obtain ⟨h, line, rfl, hh, hl, q⟩ := h
    obtain ⟨w0, ws0, ew, hw, hn⟩ := head_words (line := line)
    have wt := words_tot line
    refine ⟨_, rfl, ⟨_, rfl⟩, line, " ", rfl, rfl, rfl, by rw [sizeLine_eq]; omega, fun p hp => ?_⟩
    have e' : Txt.split line " " = w0 :: ws0 := ew
    rw [e']
    rw [ew] at wt
    have R1 := same_upd (o := .lst ((w0 :: ws0).map V.str)) hp
    have hh1 := hh.same R1
    have hw1 : RL (upd H p (.lst ((w0 :: ws0).map V.str))) (line.length + 1) (.ref p) := ⟨p, w0 :: ws0, rfl, upd_same, by omega⟩
    have hw1' : (upd H p (.lst ((w0 :: ws0).map V.str))) p = some (.lst ((w0 :: ws0).map V.str)) := upd_same
    have T1 := Step.same hh R1
    generalize upd H p (.lst ((w0 :: ws0).map V.str)) = H1 at *
    refine ⟨_, rfl, _, rfl, _, _, rfl, .inl ⟨_, SqL.of hw1', rfl⟩, h, _, rfl, hh1, by rw [List.length_map]; simp only [List.length_cons]; omega, by rw [List.length_map]; omega, fun H2 at_ T2 a0 a1 => ?_⟩
    have T12 := T1.trans T2
    have hw2 := hw1.step hh1 T2
    have hw2' : H2 p = some (.lst ((w0 :: ws0).map V.str)) := del_sub _ _ _ _ (T2.2 _ _ (by rw [del_ne (strs_hand hh1 hw1')]; exact hw1'))
    refine at_name ?_
    dsimp only
    refine seq_sh (gsh_lst (fun _ => rfl) (by decide +kernel) rfl (by decide)) fun v3 H3 S3 r3 => at_name ?_
    refine ⟨_, rfl, gsh_cat (k := 16) (m := 8) (by decide) (gsh_var rfl r3) (fun _ _ => gsh_lst (fun _ => rfl) (by decide +kernel) rfl (by decide)) _ fun v4 H4 S4 r4 => ?_⟩
    have X4 := Step.same T2.1 (S3.trans S4)
    obtain ⟨a4, xs4, rfl, f4, l4, s4⟩ := sl_hand X4.1 r4
    refine ⟨h, a4, xs4, rfl, X4.1, f4, by omega, by omega, fun H5 x T5 hx => ?_⟩
    obtain ⟨wd, rfl, hwd⟩ := short_of s4 hx
    have X5 := X4.trans T5
    have hw5 := hw2.step T2.1 X5
    have hw5' : H5 p = some (.lst ((w0 :: ws0).map V.str)) := del_sub _ _ _ _ (X5.2 _ _ (by rw [del_ne (strs_hand T2.1 hw2')]; exact hw2'))
    have T15 := T12.trans X5
    have hlw := hw w0 List.mem_cons_self
    refine at_name ?_
    dsimp only
    have V2 : ∀ {o : Option V} {H' : Hp}, Same H5 H' → GivesL (tVar 2) [some (.ref h), some (.str line), some (.ref p), some (.int at_), some v3, some (.str wd), o] H' (line.length + 1) := fun S => gl_var rfl (hw5.ext S)
    have W5 : ∀ {o : Option V} {H' : Hp}, GivesL (tLst (tCons (tVar 5) tNil)) [some (.ref h), some (.str line), some (.ref p), some (.int at_), some v3, some (.str wd), o] H' 21 := gl_one (gs_var rfl hwd)
    refine seq_r (n := 4 * line.length + 50) (k := 3) (gr_lst (by decide) (ga_cons (gl_mono (gl_cat (by omega) (gl_cat (by omega) (gl_slice (V2 (Same.refl _)) part_no (part_by (gi_var rfl))) fun H' S => W5) fun H' S => gl_slice (V2 S) (part_by (gi_add (gi_var rfl) gi_c)) part_no) (by omega))
      fun H' S => ga_cons (gl_mono (gl_cat (by omega) (gl_cat (by omega) (gl_slice (V2 S) part_no (part_by (gi_var rfl))) fun H' S => W5) fun H' S2 => gl_slice (V2 (S.trans S2)) (part_by (gi_var rfl)) part_no) (by omega))
      fun H' S2 => ga_cons (gl_mono (gl_cat (by omega) (gl_slice (V2 (S.trans S2)) part_no (part_by (gi_var rfl))) fun H' S3 => gl_slice (V2 (S.trans (S2.trans S3))) (part_by (gi_add (gi_var rfl) gi_c)) part_no) (by omega)) fun H' S3 => ga_nil)) fun v6 H6 S6 r6 => at_name ?_
    have ixw : ∀ {o : Option V} {H' : Hp}, Same H5 H' → GivesS (tOp (rIxL K) (tVar 2) (tC (.int 0))) [some (.ref h), some (.str line), some (.ref p), some (.int at_), some v3, some (.str wd), o] H' line.length := fun S => gs_ix rfl ⟨p, w0, ws0, rfl, S _ _ hw5', hlw⟩
    refine seq_r (n := 4 * line.length + 50) (k := 9) (gr_cat (k := 3) (m := 6) (by decide) (gr_var rfl r6) fun H' S => gr_lst (by decide) (ga_cons (gl_mono (gl_cat (by omega) (V2 (S6.trans S)) fun H' S => W5) (by omega))
      fun H' S1 => ga_cons (gl_mono (gl_cat (by omega) (V2 (S6.trans (S.trans S1))) fun H' S => gl_one (n := 20) (gs_c (by decide +kernel))) (by omega))
      fun H' S2 => ga_cons (gl_mono (gl_cat (by omega) (gl_one (n := 20) (gs_c (by decide +kernel))) fun H' S3 => V2 (S6.trans (S.trans (S1.trans (S2.trans S3))))) (by omega))
      fun H' S3 => ga_cons (gl_mono (gl_cat (by omega) (gl_one (gs_upper (ixw (S6.trans (S.trans (S1.trans (S2.trans S3))))) (by omega))) fun H' S4 => gl_slice (V2 (S6.trans (S.trans (S1.trans (S2.trans (S3.trans S4)))))) (part_by gi_c) part_no) (by omega))
      fun H' S4 => ga_cons (gl_mono W5 (by omega))
      fun H' S5 => ga_cons (gl_mono (gl_one (ixw (S6.trans (S.trans (S1.trans (S2.trans (S3.trans (S4.trans S5)))))))) (by omega)) fun H' _ => ga_nil)) fun v7 H7 S7 r7 => at_name ?_
    refine ⟨⟨_, rfl⟩, _, rfl, gr_cat (k := 9) (m := 3) (by decide) (gr_var rfl r7) (fun H' S => gr_lst (by decide) (ga_cons (gl_ix rfl (r7.ext S) (by decide)) fun H' S1 => ga_cons (gl_ix rfl (r7.ext (S.trans S1)) (by decide)) fun H' S2 => ga_cons (gl_ix rfl (r7.ext (S.trans (S1.trans S2))) (by decide)) fun H' _ => ga_nil)) _ fun v8 H8 S8 r8 => ?_⟩
    have X8 := Step.same X5.1 (S6.trans (S7.trans S8))
    obtain ⟨a8, xs8, rfl, f8, l8, s8⟩ := rls_hand X8.1 r8
    refine ⟨h, a8, xs8, rfl, X8.1, f8, by omega, by omega, fun H9 x T9 hx => ?_⟩
    obtain ⟨b9, us, rfl, f9, t9⟩ := (s8 x hx).step X8.1 T9
    refine ⟨" ", b9, us, rfl, rfl, .inl (SqL.of f9), ?_, q _ _ (T15.trans (X8.trans T9)) (Nat.le_trans (join_sp us) t9)⟩
    have := tot_sum us
    have e1 : ((" " : Str)).length = 1 := by decide +kernel
    rw [e1]
    omega
end
end K45

namespace K45
open PySem PySem.Spec PyProof.Rows L2
section
variable {K : PySem.W.Frag} {ta tb te : TE} {g : TG} {D : Ends} {σ : L2.St} {H H0 : Hp} {n m k : Nat} {h a : Addr}
theorem step_free (x : HandAt K H h) (st : Step K h H0 H) (e : H a = none) : H0 a = none := by
  have hne : a ≠ h := fun z => by
    obtain ⟨o, ho⟩ := hand_here x
    rw [← z, e] at ho
    cases ho
  cases q : H0 a with
  | none => rfl
  | some o =>
    have := st.2 a o (by rw [del_ne hne]; exact q)
    rw [del_ne hne, e] at this
    cases this
/-- a new list of texts -/
def GivesF (te : TE) (σ : L2.St) (H : Hp) (n : Nat) : Prop := ∀ Q : VK, (∀ v H', Same H H' → (∃ (p : Addr) (ws : List Str), v = .ref p ∧ H p = none ∧ H' p = some (.lst (ws.map V.str)) ∧ tot ws ≤ n) → Q v H') → te σ H Q
theorem gf_cat (hb0 : n + m ≤ 1000000) (ha : GivesL ta σ H n) (hb : ∀ H', Same H H' → GivesL tb σ H' m) : GivesF (tOp rCat ta tb) σ H (n + m) := fun Q q => ha _ fun x H1 S1 r1 => hb H1 S1 _ fun y H2 S2 r2 => by
  obtain ⟨a, xs, rfl, e1, t1⟩ := r1.ext S2
  obtain ⟨b, ys, rfl, e2, t2⟩ := r2
  have l1 := tot_len xs
  have l2 := tot_len ys
  exact ⟨a, b, _, _, rfl, rfl, e1, e2, le_line (by rw [List.length_map, List.length_map]; omega), fun p hp => q _ _ (S1.trans (S2.trans (same_upd hp))) ⟨p, xs ++ ys, rfl, (S1.trans S2).free hp, by rw [List.map_append]; exact upd_same, by rw [tot_app]; omega⟩⟩
theorem asg_f (hg : GivesF te σ H n) (q : ∀ v H', Same H H' → (∃ (p : Addr) (ws : List Str), v = .ref p ∧ H p = none ∧ H' p = some (.lst (ws.map V.str)) ∧ tot ws ≤ n) → g v σ H' D.nx) : tAsg te g D σ H := hg _ q
theorem step_put {ls : List Str} {zs : List V} (st : Step K h H0 H) (e0 : H0 a = none) (ea : H a = some (.lst (ls.map V.str))) (hne : ls ≠ []) : Step K h H0 (upd H a (.lst zs)) := by
  have hah : a ≠ h := strs_hand st.1 ea
  refine ⟨?_, fun b o hb => ?_, fun c r e => let ⟨r', e'⟩ := st.3 c r e; ⟨r', by rw [upd_ne (Ne.symm hah)]; exact e'⟩⟩
  · obtain ⟨c, i, b, s, k, ns, x⟩ := st.1
    refine ⟨c, i, b, s, k, ns, ?_, ?_, x.i0, x.b0, x.n0, x.nl⟩
    · rw [upd_ne (Ne.symm hah)]; exact x.at_
    · rw [del_upd_ne hah]
      rcases x.cs with hc | hc
      · refine .inl ?_
        have hca : c ≠ a := fun z => by
          subst z
          unfold Rd at hc
          rw [del_ne hah, ea] at hc
          rcases hc with hc | ⟨o, hc⟩
          · cases ls with
            | nil => exact hne rfl
            | cons l ls =>
              cases ns with
              | nil => cases hc
              | cons n ns => cases hc
          · cases hc
        unfold Rd
        rw [upd_ne hca]
        exact hc
      · exact .inr hc
  · have hba : b ≠ a := fun z => by
      subst z
      rw [del_ne hah, e0] at hb
      cases hb
    rw [del_upd_ne hah, upd_ne hba]
    exact st.2 b o hb
theorem ixN_in {n : Nat} {i : Int} (h0 : 0 ≤ i) (h1 : i < n) : ixN n i = some i.toNat := by
  unfold ixN
  rw [if_pos h0, if_pos h1]
end
def bnd : Nat → Nat
  | 0 => 400
  | i + 1 => 6 * bnd i
theorem bnd_ge : ∀ i, 400 ≤ bnd i
  | 0 => Nat.le_refl _
  | i + 1 => by have := bnd_ge i; show 400 ≤ 6 * bnd i; omega
theorem bnd_le : ∀ {i : Nat}, i ≤ 3 → bnd i ≤ 86400
  | 0, _ => by decide
  | 1, _ => by decide
  | 2, _ => by decide
  | 3, _ => by decide
  | i + 4, h => by omega
section
variable {P : Program} {w : World} {K : PySem.W.Frag} {mg : Str → Option Value} {base : Heap}
def spBentT (K : PySem.W.Frag) : Sp := fun vs H Q _ => ∃ (h l : Addr) (ls : List Str), vs = [.ref h, .ref l] ∧ HandAt K H h ∧ SqL K (del H h) l (ls.map V.str) ∧ tot ls ≤ 400 ∧ ∀ H' z, Step K h H H' → z.length ≤ 100000 → Q (.str z) H'
theorem ok_law_bent_text (T : Txt K mg) : CalX P w K mg base CX0 4 "_law_bent_text" (spBentT K) := by
  obtain ⟨fd, F⟩ := T.d__law_bent_text
  have sc : FnScope ["_law_hand_here", "_law_lines", "_law_turn", "_law_at", "_law_other", "_law_kind", "_law_line", "_law_text", "_law_cut"] ["_law_hand_here", "_law_lines"] (defScope (top 61)) := C8.fnScope_by (by decide +kernel)
  refine mk_cal0 ["_law_hand_here", "_law_lines", "_law_turn", "_law_at", "_law_other", "_law_kind", "_law_line", "_law_text", "_law_cut"] ["_law_hand_here", "_law_lines"] F T.g__law_bent_text sc (fun _ _ _ _ _ _ us hl => match us, hl with | [_, _], _ => rfl) (fun vs H Q E h => ?_) (fun cdv A outer s H vs Q E hr h => ⟨_,
      pss_cons (ps_set (i := 1) sc.nd rfl (Or.inl rfl) (pe_callTy call_list_of rfl T.f_list (by decide +kernel) (pa_cons (pv 1) pa_nil)))
      (pss_cons (ps_for PassesOwn.never rfl (pi_range1 rfl T.f_range (pa_cons (pe_0 (ok_law_draw T) hr (by decide) rfl (pa_cons (pv 0) (pa_cons pe_int pa_nil))) pa_nil)) (pg_name (i := 2) sc.nd rfl (Or.inl rfl))
        (pss_cons (ps_par3 (i := 3) (j := 4) (l := 5) rfl sc.nd rfl rfl rfl (by decide) (by decide) (by decide) rfl rfl rfl
          (pa_cons (pe_0 (ok_law_draw T) hr (by decide) rfl (pa_cons (pv 0) (pa_cons (pe_op op_add (pe_callB call_len rfl T.f_len boot_len (pa_cons (pv 1) pa_nil)) pe_int) pa_nil)))
          (pa_cons (pe_0 (ok_law_draw T) hr (by decide) rfl (pa_cons (pv 0) (pa_cons (pe_op op_add (pe_callB call_len rfl T.f_len boot_len (pa_cons (pv 1) pa_nil)) pe_int) pa_nil)))
          (pa_cons (pe_0 (ok_law_draw T) hr (by decide) rfl (pa_cons (pv 0) (pa_cons pe_int pa_nil))) pa_nil))) rfl)
        (pss_one (ps_if (PW.pt (pw_and (pt_cmpR op_lt (pv 5) pe_int (nomark _)) (pw_and1 (pt_cmpR op_lt (pv 3) (pe_callB call_len rfl T.f_len boot_len (pa_cons (pv 1) pa_nil)) (nomark _)))))
          (pss_one (ps_asg (pe_0 (ok_law_bent_line T) hr (by decide) rfl (pa_cons (pv 0) (pa_cons (pe_ix ix_list (pv 1) (pv 3) (fun _ _ => rfl)) pa_nil))) (pg_sub (pv 1) (pv 3) set_list)))
          (pss_one (ps_if (pt_cmpR op_eq (pv 5) pe_int (nomark _))
            (pss_one (ps_set (i := 1) sc.nd rfl (Or.inl rfl) (pe_op op_cat (pe_slice sl_list (pv 1) po_none (po_some (pv 3))) (pe_slice sl_list (pv 1) (po_some (pe_op op_add (pv 3) pe_int)) po_none))))
            (pss_one (ps_if (pt_cmpR op_eq (pv 5) pe_int (nomark _))
              (pss_one (ps_set (i := 1) sc.nd rfl (Or.inl rfl) (pe_op op_cat (pe_op op_cat (pe_slice sl_list (pv 1) po_none (po_some (pv 3))) (pe_slice sl_list (pv 1) (po_some (pv 4)) (po_some (pe_op op_add (pv 4) pe_int)))) (pe_slice sl_list (pv 1) (po_some (pv 3)) po_none))))
              (pss_one (ps_if (pt_cmpR op_eq (pv 5) pe_int (nomark _))
                (pss_cons (ps_set (i := 6) sc.nd rfl (Or.inl rfl) (pe_0 (ok_law_any T) hr (by decide) rfl (pa_cons (pv 0) (pa_cons (pe_lst (pa_cons pe_str (pa_cons pe_str (pa_cons pe_str (pa_cons pe_str (pa_cons pe_str (pa_cons pe_str pa_nil))))))) pa_nil))))
                (pss_one (ps_set (i := 1) sc.nd rfl (Or.inl rfl) (pe_op op_cat (pe_op op_cat (pe_slice sl_list (pv 1) po_none (po_some (pv 3))) (pe_lst (pa_cons (pv 6) pa_nil))) (pe_slice sl_list (pv 1) (po_some (pv 3)) po_none)))))
                pss_nil))))))))))
      (pss_cons (ps_set (i := 7) sc.nd rfl (Or.inl rfl) (pe_0 (ok_law_closed_lines T) hr (by decide) rfl (pa_cons (pv 1) pa_nil)))
      (pss_cons (ps_par (i := 5) (j := 8) rfl sc.nd rfl rfl (by decide) rfl rfl (pa_cons (pe_0 (ok_law_draw T) hr (by decide) rfl (pa_cons (pv 0) (pa_cons pe_int pa_nil))) (pa_cons (pe_0 (ok_law_draw T) hr (by decide) rfl (pa_cons (pv 0) (pa_cons (pe_op op_add (pe_callB call_len rfl T.f_len boot_len (pa_cons (pv 7) pa_nil)) pe_int) pa_nil))) pa_nil)) rfl)
      (pss_cons (ps_if (pt_cmpR op_eq (pv 5) pe_int (nomark _)) (pss_one (ps_ret (pe_slice sl_str (pv 7) po_none (po_some (pv 8))))) pss_nil)
      (pss_one (ps_ret (pe_ifExp (pt_cmpR op_eq (pv 5) pe_int (nomark _)) (pe_op op_add_str (pv 7) (pe_0 (ok_law_any T) hr (by decide) rfl (pa_cons (pv 0) (pa_cons (pe_lst (pa_cons pe_str (pa_cons pe_str (pa_cons pe_str (pa_cons pe_str (pa_cons pe_str pa_nil)))))) pa_nil)))) (pv 7)))))))), ?_⟩)
  · obtain ⟨h, l, ls, rfl, _⟩ := h; rfl
  · obtain ⟨h, l, ls, rfl, hh, hls, hb, q⟩ := h
    refine ⟨_, rfl, l, _, rfl, .inl (sqL_ext (same_extN (del_sub _ _)) hls), fun a ha => ?_⟩
    have R1 := same_upd (o := .lst (ls.map V.str)) ha
    have T1 := Step.same hh R1
    refine ⟨_, rfl, h, 4, rfl, T1.1, by decide, by decide, fun H2 n T2 n0 n4 => ⟨_, rfl, by omega, by omega, for_range (lo := 0) (n := n.toNat) (fun i σ H' => ∃ a ls o2 o3 o4 o5 o6, σ = [some (.ref h), some (.ref a), o2, o3, o4, o5, o6, none, none] ∧ Step K h H H' ∧ H a = none ∧ H' a = some (.lst (ls.map V.str)) ∧ tot ls ≤ bnd i) ?_ ?_ ?_⟩⟩
    · have ea : (upd H a (.lst (ls.map V.str))) a = some (.lst (ls.map V.str)) := upd_same
      exact ⟨a, ls, none, none, none, none, none, rfl, T1.trans T2, ha, del_sub _ _ _ _ (T2.2 _ _ (by rw [del_ne (strs_hand T1.1 ea)]; exact ea)), hb⟩
    · rintro i σ H3 hi ⟨a, ls, o2, o3, o4, o5, o6, rfl, T3, ha0, ha3, hb3⟩
      have hbi : bnd i ≤ 86400 := bnd_le (by omega)
      have hbg := bnd_ge i
      have eb : bnd (i + 1) = 6 * bnd i := rfl
      have hln := tot_len ls
      have keep : ∀ {Hx}, Step K h H3 Hx → Hx a = some (.lst (ls.map V.str)) := fun st => del_sub _ _ _ _ (st.2 _ _ (by rw [del_ne (strs_hand T3.1 ha3)]; exact ha3))
      refine ⟨_, rfl, _, rfl, _, _, rfl, .inl ⟨_, SqL.of ha3, rfl⟩, _, _, rfl, rfl, h, _, rfl, T3.1, by omega, by rw [List.length_map]; omega, fun H4 x3 T4 p0 p1 => ?_⟩
      refine ⟨_, rfl, _, rfl, _, _, rfl, .inl ⟨_, SqL.of (keep T4), rfl⟩, _, _, rfl, rfl, h, _, rfl, T4.1, by omega, by rw [List.length_map]; omega, fun H5 x4 T5 r0 r1 => ?_⟩
      refine ⟨_, rfl, h, 8, rfl, T5.1, by decide, by decide, fun H6 x5 T6 s0 s1 => ⟨_, _, _, rfl, ?_⟩⟩
      have T36 := T4.trans (T5.trans T6)
      have ha6 := keep T36
      have T06 := T3.trans T36
      have r6 : RL H6 (bnd i) (.ref a) := ⟨a, ls, rfl, ha6, hb3⟩
      have V1 : ∀ {o6 o2 : Option V} {H' : Hp}, Same H6 H' → GivesL (tVar 1) [some (.ref h), some (.ref a), o2, some (.int x3), some (.int x4), some (.int x5), o6, none, none] H' (bnd i) := fun S => gl_var rfl (r6.ext S)
      have done : ∀ {o2 o6 : Option V} {H' : Hp} {v : V}, Same H6 H' → (∃ (p : Addr) (ws : List Str), v = .ref p ∧ H6 p = none ∧ H' p = some (.lst (ws.map V.str)) ∧ tot ws ≤ 6 * bnd i) →
          ∃ a ls o2' o3 o4 o5 o6', ([some (.ref h), some v, o2, some (.int x3), some (.int x4), some (.int x5), o6, none, none] : L2.St) = [some (.ref h), some (.ref a), o2', o3, o4, o5, o6', none, none] ∧ Step K h H H' ∧ H a = none ∧ H' a = some (.lst (ls.map V.str)) ∧ tot ls ≤ bnd (i + 1) := fun S r => by
        obtain ⟨p, ws, rfl, e1, e2, e3⟩ := r
        exact ⟨p, ws, _, _, _, _, _, rfl, T06.trans (Step.same T6.1 S), step_free T06.1 T06 e1, e2, by rw [eb]; exact e3⟩
      have same6 : ∀ {o2 o6 : Option V}, ∃ a' ls o2' o3 o4 o5 o6', ([some (.ref h), some (.ref a), o2, some (.int x3), some (.int x4), some (.int x5), o6, none, none] : L2.St) = [some (.ref h), some (.ref a'), o2', o3, o4, o5, o6', none, none] ∧ Step K h H H6 ∧ H a' = none ∧ H6 a' = some (.lst (ls.map V.str)) ∧ tot ls ≤ bnd (i + 1) := fun {_ _} =>
        ⟨a, ls, _, _, _, _, _, rfl, T06, ha0, ha6, by omega⟩
      have rest : (tIfS (tTest (tOp rEq (tVar 5) (tC (.int 4)))) (tAsg (tOp rCat (tSl (rSlL K) (tVar 1) tNoPart (tPart (tVar 3))) (tSl (rSlL K) (tVar 1) (tPart (tOp (rI0 fun i j => .int (i + j)) (tVar 3) (tC (.int 1)))) tNoPart)) (gName 1))
          (tIfS (tTest (tOp rEq (tVar 5) (tC (.int 5)))) (tAsg (tOp rCat (tOp rCat (tSl (rSlL K) (tVar 1) tNoPart (tPart (tVar 3))) (tSl (rSlL K) (tVar 1) (tPart (tVar 4)) (tPart (tOp (rI0 fun i j => .int (i + j)) (tVar 4) (tC (.int 1)))))) (tSl (rSlL K) (tVar 1) (tPart (tVar 3)) tNoPart)) (gName 1))
          (tIfS (tTest (tOp rEq (tVar 5) (tC (.int 6)))) (tSeq (tAsg (tCall (spAny K) [] E0 (tCons (tVar 0) (tCons (tLst (tCons (tC (.str "")) (tCons (tC (.str "box 1 1 0 0")) (tCons (tC (.str "box 2 3 -4 500")) (tCons (tC (.str "level 0")) (tCons (tC (.str "upright 1 2")) (tCons (tC (.str " ")) tNil))))))) tNil))) (gName 6))
            (tAsg (tOp rCat (tOp rCat (tSl (rSlL K) (tVar 1) tNoPart (tPart (tVar 3))) (tLst (tCons (tVar 6) tNil))) (tSl (rSlL K) (tVar 1) (tPart (tVar 3)) tNoPart)) (gName 1))) tNext)))
          { nx := fun σ H' => ∃ a ls o2 o3 o4 o5 o6, σ = [some (.ref h), some (.ref a), o2, o3, o4, o5, o6, none, none] ∧ Step K h H H' ∧ H a = none ∧ H' a = some (.lst (ls.map V.str)) ∧ tot ls ≤ bnd (i + 1), rt := Q }
          [some (.ref h), some (.ref a), some (.int (0 + (i : Int))), some (.int x3), some (.int x4), some (.int x5), o6, none, none] H6 := by
        refine ⟨_, rfl, rfl, _, rfl, ?_⟩
        cases decide (V.int x5 = V.int 4) with
        | true =>
          refine iteT (asg_f (gf_cat (by omega) (gl_slice (V1 (Same.refl _)) part_no (part_by (gi_var rfl))) fun H' S => gl_slice (V1 S) (part_by (gi_add (gi_var rfl) gi_c)) part_no) fun v H' S r => done S ?_)
          obtain ⟨p, ws, e1, e2, e3, e4⟩ := r
          exact ⟨p, ws, e1, e2, e3, by omega⟩
        | false =>
          refine iteF ⟨_, rfl, rfl, _, rfl, ?_⟩
          cases decide (V.int x5 = V.int 5) with
          | true =>
            refine iteT (asg_f (gf_cat (by omega) (gl_cat (by omega) (gl_slice (V1 (Same.refl _)) part_no (part_by (gi_var rfl))) fun H' S => gl_slice (V1 S) (part_by (gi_var rfl)) (part_by (gi_add (gi_var rfl) gi_c))) fun H' S => gl_slice (V1 S) (part_by (gi_var rfl)) part_no) fun v H' S r => done S ?_)
            obtain ⟨p, ws, e1, e2, e3, e4⟩ := r
            exact ⟨p, ws, e1, e2, e3, by omega⟩
          | false =>
            refine iteF ⟨_, rfl, rfl, _, rfl, ?_⟩
            cases decide (V.int x5 = V.int 6) with
            | true =>
              refine iteT ⟨_, rfl, gsh_lst (fun _ => rfl) (by decide +kernel) rfl (by decide) _ fun v7 H7 S7 r7 => ?_⟩
              have X7 := Step.same T6.1 S7
              obtain ⟨a7, xs7, rfl, f7, l7, s7⟩ := sl_hand X7.1 r7
              refine ⟨h, a7, xs7, rfl, X7.1, f7, by rw [l7]; decide, by rw [l7]; decide, fun H8 x T8 hx => ?_⟩
              obtain ⟨wd, rfl, hwd⟩ := short_of s7 hx
              have X8 := X7.trans T8
              have r8 : RL H8 (bnd i) (.ref a) := r6.step T6.1 X8
              refine asg_f (gf_cat (n := bnd i + 21) (m := bnd i) (by omega) (gl_cat (n := bnd i) (m := 21) (by omega) (gl_slice (gl_var rfl r8) part_no (part_by (gi_var rfl))) fun H' S => gl_one (gs_var rfl hwd)) fun H' S => gl_slice (gl_var rfl (r8.ext S)) (part_by (gi_var rfl)) part_no) fun v H' S r => ?_
              obtain ⟨p, ws, rfl, e1, e2, e3⟩ := r
              have T08 := T06.trans X8
              exact ⟨p, ws, _, _, _, _, _, rfl, T08.trans (Step.same T08.1 S), step_free T08.1 T08 e1, e2, by omega⟩
            | false => exact iteF same6
      refine ⟨_, rfl, _, _, rfl, rfl, _, rfl, ?_⟩
      cases decide (x5 < 4) with
      | false => exact iteF (iteF rest)
      | true =>
        refine iteT ⟨_, rfl, _, rfl, _, _, rfl, .inl ⟨_, SqL.of ha6, rfl⟩, _, _, rfl, rfl, _, rfl, ?_⟩
        rw [List.length_map]
        by_cases c : x3 < (ls.length : Int)
        · rw [decide_eq_true c]
          obtain ⟨li, e1, e2⟩ := atI_pick (xs := ls.map V.str) p0 (by rw [List.length_map]; exact c)
          obtain ⟨line, hline, rfl⟩ := List.mem_map.mp e2
          have hlt := tot_mem hline
          refine iteT ⟨_, rfl, _, rfl, _, rfl, a, _, x3, _, rfl, rfl, SqL.of ha6, e1, h, line, rfl, T6.1, by omega, fun H7 z T7 hz => ?_⟩
          have ha7 := keep (T36.trans T7)
          refine ⟨_, rfl, _, rfl, a, _, x3, _, rfl, rfl, ha7, ixN_in p0 (by rw [List.length_map]; exact c), ?_⟩
          have T07 := T06.trans T7
          refine ⟨a, ls.set x3.toNat z, _, _, _, _, _, rfl, step_put T07 ha0 ha7 (List.ne_nil_of_mem hline), ha0, by rw [upd_same, List.map_set], ?_⟩
          have := tot_set (l := ls) (i := x3.toNat) (y := z)
          omega
        · rw [decide_eq_false c]
          exact iteF rest
    · rintro σ H3 ⟨a, ls, o2, o3, o4, o5, o6, rfl, T3, ha0, ha3, hb3⟩
      have hbi : bnd n.toNat ≤ 86400 := bnd_le (by omega)
      refine ⟨_, rfl, a, ls, rfl, SqL.of ha3, by omega, fun H4 S4 => ?_⟩
      have X4 := Step.same T3.1 S4
      have hz := textOf_len ls
      generalize textOf ls = z at *
      refine ⟨_, rfl, h, 10, rfl, X4.1, by decide, by decide, fun H5 k5 T5 k0 k1 => ⟨_, rfl, _, rfl, _, z.length, rfl, ⟨le_line (by omega), rfl⟩, _, _, rfl, rfl, h, _, rfl, T5.1, by omega, by omega, fun H6 c6 T6 c0 c1 => ⟨_, _, rfl, ?_⟩⟩⟩
      have T06 := T3.trans (X4.trans (T5.trans T6))
      refine ⟨_, rfl, rfl, _, rfl, ?_⟩
      cases decide (V.int k5 = V.int 0) with
      | true => exact iteT ⟨_, rfl, _, rfl, _, rfl, z, rfl, le_line (by omega), q _ _ T06 (by have := cutS_length z none (some c6); omega)⟩
      | false =>
        refine iteF ⟨_, rfl, rfl, _, rfl, ?_⟩
        cases decide (V.int k5 = V.int 1) with
        | false => exact iteF ⟨_, rfl, q _ _ T06 (by omega)⟩
        | true =>
          refine iteT ⟨_, rfl, _, rfl, gsh_lst (fun _ => rfl) (by decide +kernel) rfl (by decide) _ fun v7 H7 S7 r7 => ?_⟩
          have X7 := Step.same T6.1 S7
          obtain ⟨a7, xs7, rfl, f7, l7, s7⟩ := sl_hand X7.1 r7
          refine ⟨h, a7, xs7, rfl, X7.1, f7, by rw [l7]; decide, by rw [l7]; decide, fun H8 x T8 hx => ?_⟩
          obtain ⟨wd, rfl, hwd⟩ := short_of s7 hx
          exact ⟨_, _, rfl, rfl, le_line (by omega), q _ _ (T06.trans (X7.trans T8)) (by rw [len_app]; omega)⟩
end
end K45

namespace K45
open PySem PySem.Spec PyProof.Rows L2
theorem takes_len {X : Cx} {W : WX} (t : Takes X W) {n : Nat} (hn : X.N.length = n) : Takes X (fun c d σ H => σ.length = n → W c d σ H) := fun u s' ⟨a, B, sI, pins, σ, H, cls, d, e, I, nb, up, sky, na, os, ag, w⟩ =>
  t u s' ⟨a, B, sI, pins, σ, H, cls, d, e, I, nb, up, sky, na, os, ag, w (I.len.trans hn)⟩
/-- what an error that goes out of the lambda is told as -/
def toldE (K : PySem.W.Frag) (Q : VK) : XK := fun cls d H' =>
  (cls = .ref (cBT K) ∧ ∃ (dd : Addr) (n : Int), d = some dd ∧ H' dd = some (.xd [(("line" : Str), .int n)]) ∧ ∀ p, H' p = none → Q (.ref p) (upd H' p (.tup [.str "line", .int n]))) ∨
  (cls = .ref (cBB K) ∧ ∃ (dd : Addr) (n : Int), d = some dd ∧ H' dd = some (.xd [(("part" : Str), .int n)]) ∧ ∀ p, H' p = none → Q (.ref p) (upd H' p (.tup [.str "boxes", .int n]))) ∨
  (cls = .ref (cNP K) ∧ ∀ p, H' p = none → Q (.ref p) (upd H' p (.tup [.str "picture", .non]))) ∨
  (cls = .ref (cNS K) ∧ ∀ p, H' p = none → Q (.ref p) (upd H' p (.tup [.str "script", .non])))
def TTold (K : PySem.W.Frag) : (XK → Hp → VK → Prop) → Hp → VK → Prop := fun tl H Q => ∀ H1, Same H H1 → ∀ Kn : VK, (∀ v H2, (∀ p, H2 p = none → Q (.ref p) (upd H2 p (.tup [.str "let", v]))) → Kn v H2) → tl (toldE K Q) H1 Kn
theorem told_gives {X : Cx} (T : Txt X.K X.mg) {q : Str} {cdg : Value} : LamX.GivesTo X ["_law_ask", "_law_told_here", "e"] "_law_told" (defScope (top 59)) (He.ga X.K "_law_told") cdg (defBody (top 59)) "_law_ask" q (TTold X.K) := by
  intro f c' s H Q tl act hc h
  have sc : FnScope ["_law_ask", "_law_told_here", "e"] ["_law_ask"] (defScope (top 59)) := C8.fnScope_by (by decide +kernel)
  have M := T.mo
  refine ⟨_, pss_cons (ps_set (i := 1) sc.nd rfl (Or.inl rfl) (pe_tup (pa_cons pe_str (pa_cons pe_non pa_nil)))) (pss_cons (ps_try_mix (X := (cxOf C8.CX0 X.prog X.w X.K X.mg X.base ["_law_ask", "_law_told_here", "e"] "_law_told" (defScope (top 59)) (He.ga X.K "_law_told") cdg X.A X.stack s H C8.E0).nox)
      (tb := fun W D σ H => ∃ Ech : XK, (∀ cls d (σ' : L2.St) H', Ech cls d H' → σ'.length = 3 → W cls d σ' H') ∧ tAsg (tTup (tCons (tC (.str "let")) (tCons (fun σZ HZ Q => σZ[0]? = some (some (.ref f)) ∧ HZ c' = some (LamX.CodeO c' q) ∧ tl Ech HZ Q) tNil))) (gName 1) D σ H)
      rfl rfl LamX.takes0 (fun W pn xe tk _ => ?_)
      (HdsMx.consAs (i := 2) (c := .ref (cBT X.K)) sc.nd rfl rfl ⟨rfl, by decide, .inl T.g_BadText⟩ (fun a oe cls d pn hz hf => pss_one (ps_set (i := 1) sc.nd rfl (Or.inl rfl)
          (pe_ifExp (PW.pt (pw_and (pt_val (pe_callB (call_isD M.bt.x M.isT.ha M.isT.hn M.isT.ht M.isT.hm hz hf) rfl T.f_isinstance (by decide +kernel) (pa_cons (pv 2) (pa_cons (pe_glob (v := .ref (cSE X.K)) rfl T.g_StrokeError rfl) pa_nil))))
            (pw_and1 (pt_val (pe_callB (call_isD M.bt.x M.isT.ha M.isT.hn M.isT.ht M.isT.hm hz hf) rfl T.f_isinstance (by decide +kernel) (pa_cons (pv 2) (pa_cons (pe_bltn (v := .ty "ValueError") rfl T.f_ValueError (by decide +kernel) rfl) pa_nil)))))))
          (pe_tup (pa_cons pe_str (pa_cons (pe_xf M.bt.x M.bt.no hz hf (pv 2)) pa_nil))) (pv 1))))
      (HdsMx.consAs (i := 2) (c := .ref (cBB X.K)) sc.nd rfl rfl ⟨rfl, by decide, .inl T.g_BadBoxes⟩ (fun a oe cls d pn hz hf => pss_one (ps_set (i := 1) sc.nd rfl (Or.inl rfl) (pe_tup (pa_cons pe_str (pa_cons (pe_xf M.bb.x M.bb.no hz hf (pv 2)) pa_nil)))))
      (HdsMx.cons (c := .ref (cNP X.K)) ⟨rfl, by decide, .inl T.g_NoPicture⟩ (fun a oe cls d pn hz hf => pss_one (ps_set (i := 1) sc.nd rfl (Or.inl rfl) (pe_tup (pa_cons pe_str (pa_cons pe_non pa_nil)))))
      (HdsMx.cons (c := .ref (cNS X.K)) ⟨rfl, by decide, .inl T.g_NoScript⟩ (fun a oe cls d pn hz hf => pss_one (ps_set (i := 1) sc.nd rfl (Or.inl rfl) (pe_tup (pa_cons pe_str (pa_cons pe_non pa_nil)))))
      (HdsMx.cons (c := .ref (cSE X.K)) ⟨rfl, by decide, .inl T.g_StrokeError⟩ (fun a oe cls d pn hz hf => pss_one (ps_set (i := 1) sc.nd rfl (Or.inl rfl) (pe_tup (pa_cons pe_str (pa_cons pe_non pa_nil))))) .nil))))))
      (pss_one (ps_ret (pv 1)))), ?_⟩
  · refine ⟨fun pins s' σ H' D I h' => ?_⟩
    obtain ⟨Ech, hW, h1⟩ := h'
    exact (pss_one (ps_set (i := 1) sc.nd rfl (Or.inl rfl) (pe_tup (pa_cons pe_str (pa_cons (act _ pn xe Ech _ _ (takes_len tk rfl) hW) pa_nil))))).run pins s' σ H' D I h1
  · refine ⟨(by show 2 ≤ sizeLine; decide), fun t0 ht0 => ?_⟩
    have S0 := same_upd (o := .tup [.str "other", .non]) ht0
    refine ⟨toldE X.K Q, fun cls d σ' H' hE hlen => ?_, rfl, S0 _ _ hc, ?_⟩
    · match σ', hlen with
      | [x0, x1, x2], _ =>
        rcases hE with ⟨rfl, dd, n, rfl, hdd, qn⟩ | ⟨rfl, dd, n, rfl, hdd, qn⟩ | ⟨rfl, qn⟩ | ⟨rfl, qn⟩
        · refine ⟨true, T.m_BadText_BadText, fun _ a ha => ?_, (fun z => nomatch z)⟩
          refine ⟨_, rfl, rfl, _, _, true, dd, _, rfl, rfl, hdd, .own _, M.k1, _, rfl, iteT ⟨_, rfl, rfl, _, _, true, dd, _, rfl, rfl, hdd, .ty _, M.k2, _, rfl, iteT ?_⟩⟩
          refine ⟨_, rfl, rfl, rfl, dd, _, .int n, rfl, hdd, rfl, (by show 2 ≤ sizeLine; decide), fun p hp => ⟨_, rfl, qn p hp⟩⟩
        · refine ⟨false, T.m_BadBoxes_BadText, (fun z => nomatch z), fun _ => ⟨true, T.m_BadBoxes_BadBoxes, fun _ a ha => ?_, (fun z => nomatch z)⟩⟩
          exact ⟨_, rfl, rfl, rfl, dd, _, .int n, rfl, hdd, rfl, (by show 2 ≤ sizeLine; decide), fun p hp => ⟨_, rfl, qn p hp⟩⟩
        · refine ⟨false, T.m_NoPicture_BadText, (fun z => nomatch z), fun _ => ⟨false, T.m_NoPicture_BadBoxes, (fun z => nomatch z), fun _ => ⟨true, T.m_NoPicture_NoPicture, fun _ a ha => ?_, (fun z => nomatch z)⟩⟩⟩
          exact ⟨(by show 2 ≤ sizeLine; decide), fun p hp => ⟨_, rfl, qn p hp⟩⟩
        · refine ⟨false, T.m_NoScript_BadText, (fun z => nomatch z), fun _ => ⟨false, T.m_NoScript_BadBoxes, (fun z => nomatch z), fun _ => ⟨false, T.m_NoScript_NoPicture, (fun z => nomatch z), fun _ => ⟨true, T.m_NoScript_NoScript, fun _ a ha => ?_, (fun z => nomatch z)⟩⟩⟩⟩
          exact ⟨(by show 2 ≤ sizeLine; decide), fun p hp => ⟨_, rfl, qn p hp⟩⟩
    · exact h _ S0 _ fun v H2 hv => ⟨(by show 2 ≤ sizeLine; decide), fun p hp => ⟨_, rfl, hv p hp⟩⟩
end K45

namespace K45
open PySem PySem.Spec PyProof.Rows L2
/-! ### tables of lambdas -/
def lamN (x : Str) : Str := (x ++ (".<locals>." : Str)) ++ ("<lambda>" : Str)
def tabP (K : PySem.W.Frag) (x : Str) : Addr := (He.cT K (x, none)).2
def tabC (K : PySem.W.Frag) (x : Str) : Addr := (He.cT K (x, none)).1
def tabsK (K : PySem.W.Frag) : List (Addr × Str) := [(tabP K "_law_picture_right", lamN "_law_picture_right"), (tabP K "_law_far_right", lamN "_law_far_right"), (tabP K "law", lamN "law")]
abbrev TabsB (K : PySem.W.Frag) (mg : Str → Option Value) (base : Heap) : Prop := ∀ p ∈ tf.map (He.cT K), LamX.TabB base mg p.1 p.2
section
variable {P : Program} {w : World} {K : PySem.W.Frag} {mg : Str → Option Value} {base : Heap}
theorem mk_fnT {CX : CXT} {x : Str} {st : Stmt} {fd : FuncData} (N ps : List Str) {k : Nat} {sp : Sp}
    (F : FunD K x x (defArgs st) (defBody st) (defScope st) [] [] (He.ga K x) fd) (S : FnScope N ps (defScope st))
    (len : ∀ vs H Q E, sp vs H Q E → vs.length = ps.length)
    (hbody : ∀ (A : Around) (outer : List Env) (s : Shared) (H : Hp) (vs : List V) (Q : VK) (E : XK), Room k (A.deeper (envOfC x (defScope st) s.heap.objs.size (He.ga K x) (.ref (tabC K x)))) → sp vs H Q E →
      ∃ t, PSs (cxOf CX P w K mg base N x (defScope st) (He.ga K x) (.ref (tabC K x)) A outer s H E).nox (defBody st) t ∧ t { nx := fun _ H' => Q .non H', rt := Q } (L2.start N vs) H) : FnOk P w K mg base CX (k + 1) (He.ga K x) fd ps sp := by
  obtain ⟨oc, od, dV, kV, doc, pm, an, cdv, ct, osl, rfl, lk, hcd, _, _⟩ := F.ex
  obtain ⟨c, rfl⟩ := He.codeIn_ref hcd
  have ec : tabC K x = c := He.codeOf_eq (p := (x, none)) lk rfl
  subst ec
  refine fn_of lk hcd S len fun A outer s H vs Q E hr hsp => ?_
  obtain ⟨t, h1, h2⟩ := hbody A outer s H vs Q E hr hsp
  exact ⟨t, h1.nox, h2⟩
theorem mk_calT {CX : CXT} {x : Str} {st : Stmt} {fd : FuncData} (N ps : List Str) {k : Nat} {sp : Sp}
    (F : FunD K x x (defArgs st) (defBody st) (defScope st) [] [] (He.ga K x) fd) (hm : mg x = some (.ref (He.ga K x))) (S : FnScope N ps (defScope st))
    (hb : ∀ (kV doc pm : Value) (an : Option Addr) (cdv ct : Value) (us : List Value), us.length = ps.length → bindArgs (PySem.W.fnOf x x (defArgs st) (defBody st) (defScope st) .none kV doc pm an cdv ct) ⟨us, []⟩ = pure (ps.zip us))
    (len : ∀ vs H Q E, sp vs H Q E → vs.length = ps.length)
    (hbody : ∀ (A : Around) (outer : List Env) (s : Shared) (H : Hp) (vs : List V) (Q : VK) (E : XK), Room k (A.deeper (envOfC x (defScope st) s.heap.objs.size (He.ga K x) (.ref (tabC K x)))) → sp vs H Q E →
      ∃ t, PSs (cxOf CX P w K mg base N x (defScope st) (He.ga K x) (.ref (tabC K x)) A outer s H E).nox (defBody st) t ∧ t { nx := fun _ H' => Q .non H', rt := Q } (L2.start N vs) H) : CalX P w K mg base CX (k + 1) x sp :=
  ⟨⟨He.ga K x, fd, ps, mk_fnT N ps F S len hbody, hm, F.kp, F.bindsN hb⟩⟩
theorem tabs_in1 (K : PySem.W.Frag) : (tabP K "_law_picture_right", lamN "_law_picture_right") ∈ tabsK K := List.mem_cons_self
theorem tabs_in2 (K : PySem.W.Frag) : (tabP K "_law_far_right", lamN "_law_far_right") ∈ tabsK K := List.mem_cons_of_mem _ List.mem_cons_self
theorem tabs_in3 (K : PySem.W.Frag) : (tabP K "law", lamN "law") ∈ tabsK K := List.mem_cons_of_mem _ (List.mem_cons_of_mem _ List.mem_cons_self)
theorem tabs_u1 (T : Txt K mg) : ∀ p ∈ tabsK K, p.1 = tabP K "_law_picture_right" → p.2 = lamN "_law_picture_right" := fun p hp e => by
  have M := T.mo
  rcases List.mem_cons.mp hp with z | hp
  · rw [z]
  · rcases List.mem_cons.mp hp with z | hp
    · rw [z] at e; exact absurd e.symm M.d1
    · rw [List.mem_singleton.mp hp] at e; exact absurd e.symm M.d2
theorem tabs_u2 (T : Txt K mg) : ∀ p ∈ tabsK K, p.1 = tabP K "_law_far_right" → p.2 = lamN "_law_far_right" := fun p hp e => by
  have M := T.mo
  rcases List.mem_cons.mp hp with z | hp
  · rw [z] at e; exact absurd e M.d1
  · rcases List.mem_cons.mp hp with z | hp
    · rw [z]
    · rw [List.mem_singleton.mp hp] at e; exact absurd e.symm M.d3
theorem tabs_u3 (T : Txt K mg) : ∀ p ∈ tabsK K, p.1 = tabP K "law" → p.2 = lamN "law" := fun p hp e => by
  have M := T.mo
  rcases List.mem_cons.mp hp with z | hp
  · rw [z] at e; exact absurd e M.d2
  · rcases List.mem_cons.mp hp with z | hp
    · rw [z] at e; exact absurd e M.d3
    · rw [List.mem_singleton.mp hp]
/-! ### what told makes of reading -/
def ToldP (K : PySem.W.Frag) (H : Hp) (t : Addr) : PicOut → Prop
  | .line n => SqT K H t [.str "line", .int n]
  | .boxes p => SqT K H t [.str "boxes", .int p]
  | .picture => SqT K H t [.str "picture", .non]
  | .ok ss ps => ∃ u, SqT K H t [.str "let", .ref u] ∧ PicVal K H (.ref u) ss ps
def ToldS (K : PySem.W.Frag) (H : Hp) (t : Addr) : ScrOut → Prop
  | .line n => SqT K H t [.str "line", .int n]
  | .script => SqT K H t [.str "script", .non]
  | .ok rows => ∃ v, SqT K H t [.str "let", v] ∧ Dp K H v (.tuple (rows.map encR))
theorem told_pic {H : Hp} {Q Kn : VK} {out : PicOut} (q : ∀ H' t, Same H H' → ToldP K H' t out → Q (.ref t) H') (hk : ∀ v H2, (∀ p, H2 p = none → Q (.ref p) (upd H2 p (.tup [.str "let", v]))) → Kn v H2) : PicE K (toldE K Q) H Kn out := by
  cases out with
  | line n => exact fun H' d S hd hx => .inl ⟨rfl, d, n, rfl, hx, fun p hp => q _ p (S.trans (same_upd hp)) (SqT.of upd_same)⟩
  | boxes b => exact fun H' d S hd hx => .inr (.inl ⟨rfl, d, b, rfl, hx, fun p hp => q _ p (S.trans (same_upd hp)) (SqT.of upd_same)⟩)
  | picture => exact fun H' S => .inr (.inr (.inl ⟨rfl, fun p hp => q _ p (S.trans (same_upd hp)) (SqT.of upd_same)⟩))
  | ok ss ps =>
    intro H' v S hv
    refine hk _ _ fun p hp => q _ p (S.trans (same_upd hp)) ?_
    obtain ⟨t, x, pa, rfl, h1, h2, h3⟩ := hv
    have S2 := same_upd (o := .tup [.str "let", .ref t]) hp
    exact ⟨t, SqT.of upd_same, t, x, pa, rfl, sqT_ext (same_extN S2) h1, boxAt_ext (same_extN S2) h2, dp_ext S2 h3⟩
theorem told_scr {H : Hp} {Q Kn : VK} {out : ScrOut} (q : ∀ H' t, Same H H' → ToldS K H' t out → Q (.ref t) H') (hk : ∀ v H2, (∀ p, H2 p = none → Q (.ref p) (upd H2 p (.tup [.str "let", v]))) → Kn v H2) : ScrE K (toldE K Q) H Kn out := by
  cases out with
  | line n => exact fun H' d S hd hx => .inl ⟨rfl, d, n, rfl, hx, fun p hp => q _ p (S.trans (same_upd hp)) (SqT.of upd_same)⟩
  | script => exact fun H' S => .inr (.inr (.inr ⟨rfl, fun p hp => q _ p (S.trans (same_upd hp)) (SqT.of upd_same)⟩))
  | ok rows =>
    intro H' v S hv
    refine hk _ _ fun p hp => q _ p (S.trans (same_upd hp)) ?_
    have S2 := same_upd (o := .tup [.str "let", v]) hp
    exact ⟨v, SqT.of upd_same, dp_ext S2 hv⟩
theorem prs_of {H : Hp} {xs ys : List V} {ps : List II} (h1 : DpAll K H xs (ps.map encP)) (h2 : DpAll K H ys (ps.map encP)) : Prs (DTup K DFlat) xs ys H := by
  have l1 : xs.length = ps.length := by rw [dpAll_len h1, List.length_map]
  have l2 : ys.length = ps.length := by rw [dpAll_len h2, List.length_map]
  refine ⟨by omega, fun i x y e1 e2 => ?_⟩
  have hi : i < ps.length := by
    have := (List.getElem?_eq_some_iff.mp e1).1
    omega
  obtain ⟨b1, f1, g1⟩ := encPs_at h1 (at2_get hi)
  obtain ⟨b2, f2, g2⟩ := encPs_at h2 (at2_get hi)
  rw [f1] at e1
  rw [f2] at e2
  cases e1
  cases e2
  exact ⟨b1, b2, _, _, rfl, rfl, g1, g2, Prs.cons ⟨rfl, rfl, by simp [eqV]⟩ (Prs.cons ⟨rfl, rfl, by simp [eqV]⟩ Prs.nil)⟩
abbrev DPic (K : PySem.W.Frag) : Eqv := fun x y H => DIns (cBx K) (SameBx K) x y H ∨ DTup K (DTup K DFlat) x y H
theorem mon_pic : Mon (DPic K) := Mon.or (mon_ins fun a b H H' e ⟨ss, h1, h2⟩ => ⟨ss, boxAt_ext (LamX.ExtN.of e) h1, boxAt_ext (LamX.ExtN.of e) h2⟩) (mon_tup (mon_tup mon_flat))
/-! ### _law_picture_right -/
def spPicR (K : PySem.W.Frag) : Sp := fun vs H Q _ => ∃ text : Str, vs = [.str text] ∧ text.length ≤ 900000 ∧ LamX.Tabs (tabsK K) H ∧ ∀ H', LamX.ExtN H H' → LamX.Tabs (tabsK K) H' → Q (.bl true) H'
theorem ok_law_picture_right (T : Txt K mg) (TB : TabsB K mg base) : CalX P w K mg base CX0 10 "_law_picture_right" (spPicR K) := by
  obtain ⟨fd, F⟩ := T.d__law_picture_right
  obtain ⟨fb, FB, BB⟩ := ok_boxes_init (P := P) (w := w) (base := base) T
  obtain ⟨fe, FE, BE⟩ := ok_boxes_eq (P := P) (w := w) (base := base) T
  obtain ⟨ft, FT⟩ := T.d__law_told
  have kpT := FT.kp
  have bT := FT.bindsN (ps := ["_law_ask"]) fun _ _ _ _ _ _ us hl => match us, hl with | [_], _ => rfl
  obtain ⟨oc, od, dV, kV, doc, pm, an, cdT, ct, osl, rfl, lkT, hcT, _, _⟩ := FT.ex
  have M := T.mo
  have sg : FnScope ["_law_ask", "_law_told_here", "e"] ["_law_ask"] (defScope (top 59)) := C8.fnScope_by (by decide +kernel)
  have sc : FnScope ["_law_text", "_law_told_here", "_law_due"] ["_law_text"] (defScope (top 62)) := C8.fnScope_by (by decide +kernel)
  have tb : LamX.TabB base mg (tabC K "_law_picture_right") (tabP K "_law_picture_right") := TB _ (List.mem_map.mpr ⟨("_law_picture_right", none), List.mem_cons_self, rfl⟩)
  refine mk_calT ["_law_text", "_law_told_here", "_law_due"] ["_law_text"] F T.g__law_picture_right sc (fun _ _ _ _ _ _ us hl => match us, hl with | [_], _ => rfl) (fun vs H Q E h => ?_) (fun A outer s H vs Q E hr h => ⟨_,
      pss_cons (ps_par (i := 1) (j := 2) rfl sc.nd rfl rfl (by decide) rfl rfl (pa_cons
          (LamX.pe_lamcall (T := tabsK K) (TT := TTold K) (k := 7) rfl T.g__law_told kpT lkT hcT bT sg rfl (Or.inl rfl) (told_gives T) tb rfl (tabs_in1 K) (tabs_u1 T) (hr.mono (by decide)) (LamX.lamS_by (sc := defScope (top 62)) (by decide +kernel)) rfl (fun _ _ _ _ _ => rfl)
            (fun A outer s H E f c' hr2 => pe_x (ok_read_picture T) hr2 (by decide) (E := E) (passes_call (takes_of rfl rfl rfl rfl) fun _ _ _ _ z => z) rfl (pa_cons (pv 0) pa_nil)))
          (pa_cons (pe_0 (ok_law_due_picture T) hr (by decide) rfl (pa_cons (pv 0) pa_nil)) pa_nil)) rfl)
      (pss_cons (ps_if (pt_cmpR op_ne (pe_ix ix_tup (pv 2) pe_int (fun _ _ => rfl)) pe_str (nomark _))
        (pss_one (ps_ret (pe_and (pe_cmpR (op_eqD hr.units) (pv 1) (pv 2) (nomark _)) (pe_one (pe_not (pe_callB call_isi rfl T.f_isinstance (by decide +kernel) (pa_cons (pe_ix ix_tup (pv 1) pe_int (fun _ _ => rfl)) (pa_cons (pe_bltn (v := .ty "bool") rfl T.f_bool (by decide +kernel) rfl) pa_nil)))))))) pss_nil)
      (pss_one (ps_ret (pe_and (pe_cmpR op_eq (pe_ix ix_tup (pv 1) pe_int (fun _ _ => rfl)) pe_str (nomark _))
        (pe_one (pe_cmpR (op_eqG (rcG_tup mon_pic (EqG.or ((eqG_ins FE T.meth_eq.at_ T.meth_eq.fn BE pass0 (E := E0)).mono (by decide)) (eqG_tup (mon_tup mon_flat) (eqG_tup mon_flat eqG_flat)))) (hr.mono (by decide)))
          (pe_ix ix_tup (pv 1) pe_int (fun _ _ => rfl))
          (pe_tup (pa_cons (pe_make T.mkB FB (hr.mono (by decide)) rfl T.g_Boxes BB .nil (E := E0) passL (pa_cons (pe_ix ix_tup (pe_ix ix_tup (pv 2) pe_int (fun _ _ => rfl)) pe_int (fun _ _ => rfl)) pa_nil))
            (pa_cons (pe_ix ix_tup (pe_ix ix_tup (pv 2) pe_int (fun _ _ => rfl)) pe_int (fun _ _ => rfl)) pa_nil))) (nomark _))))))), ?_⟩)
  · obtain ⟨text, rfl, _⟩ := h; rfl
  · obtain ⟨text, rfl, hl, ht, q⟩ := h
    refine ⟨ht, fun H1 X1 T1 H2 S2 Kn hk => ⟨_, rfl, .str text, rfl, .inr ⟨text, rfl, hl, told_pic (fun H3 t1 S3 tt => ?_) hk⟩⟩⟩
    refine ⟨_, rfl, text, rfl, hl, fun H4 t2 S4 dd => ⟨_, _, rfl, ?_⟩⟩
    have S24 : Same H1 H4 := S2.trans (S3.trans S4)
    have fin : ∀ H', Same H1 H' → Q (.bl true) H' := fun H' S => q H' (X1.trans (same_extN S)) (T1.ext S)
    generalize picOut text = out at tt dd
    cases out with
    | line n =>
      have tt4 : SqT K H4 t1 [.str "line", .int n] := sqT_ext (same_extN S4) tt
      have dd : SqT K H4 t2 [.str "line", .int n] := dd
      have d1 : Dp K H4 (.ref t1) (.tuple [.str "line", .int n]) := .tup tt4 (.cons (.str _) (.cons (.int _) .nil))
      have d2 : Dp K H4 (.ref t2) (.tuple [.str "line", .int n]) := .tup dd (.cons (.str _) (.cons (.int _) .nil))
      have nc : Nice 1 (.tuple [.str "line", .int n]) := nice_tup fun d hd => by
        rcases List.mem_cons.mp hd with z | hd
        · rw [z]; exact ⟨by decide +kernel, Nat.zero_le _⟩
        · rw [List.mem_singleton.mp hd]; exact ⟨rfl, Nat.zero_le _⟩
      refine ⟨_, rfl, t2, _, 0, _, rfl, rfl, dd, rfl, rfl, _, rfl, iteT ?_⟩
      refine ⟨_, rfl, _, rfl, _, _, d1, d2, nc.shaped (by decide), nc.shaped (by decide), ?_⟩
      rw [nc.refl]
      exact ⟨_, rfl, iteT ⟨_, rfl, t1, _, 1, _, rfl, rfl, tt4, rfl, _, _, _, _, false, rfl, .ty _, .base (.int _), kit_ty (by decide +kernel), _, rfl, fin H4 S24⟩⟩
    | boxes b =>
      have tt4 : SqT K H4 t1 [.str "boxes", .int b] := sqT_ext (same_extN S4) tt
      have dd : SqT K H4 t2 [.str "boxes", .int b] := dd
      have d1 : Dp K H4 (.ref t1) (.tuple [.str "boxes", .int b]) := .tup tt4 (.cons (.str _) (.cons (.int _) .nil))
      have d2 : Dp K H4 (.ref t2) (.tuple [.str "boxes", .int b]) := .tup dd (.cons (.str _) (.cons (.int _) .nil))
      have nc : Nice 1 (.tuple [.str "boxes", .int b]) := nice_tup fun d hd => by
        rcases List.mem_cons.mp hd with z | hd
        · rw [z]; exact ⟨by decide +kernel, Nat.zero_le _⟩
        · rw [List.mem_singleton.mp hd]; exact ⟨rfl, Nat.zero_le _⟩
      refine ⟨_, rfl, t2, _, 0, _, rfl, rfl, dd, rfl, rfl, _, rfl, iteT ?_⟩
      refine ⟨_, rfl, _, rfl, _, _, d1, d2, nc.shaped (by decide), nc.shaped (by decide), ?_⟩
      rw [nc.refl]
      exact ⟨_, rfl, iteT ⟨_, rfl, t1, _, 1, _, rfl, rfl, tt4, rfl, _, _, _, _, false, rfl, .ty _, .base (.int _), kit_ty (by decide +kernel), _, rfl, fin H4 S24⟩⟩
    | picture =>
      have tt4 : SqT K H4 t1 [.str "picture", .non] := sqT_ext (same_extN S4) tt
      have dd : SqT K H4 t2 [.str "picture", .non] := dd
      have d1 : Dp K H4 (.ref t1) (.tuple [.str "picture", .none]) := .tup tt4 (.cons (.str _) (.cons (.non) .nil))
      have d2 : Dp K H4 (.ref t2) (.tuple [.str "picture", .none]) := .tup dd (.cons (.str _) (.cons (.non) .nil))
      have nc : Nice 1 (.tuple [.str "picture", .none]) := nice_tup fun d hd => by
        rcases List.mem_cons.mp hd with z | hd
        · rw [z]; exact ⟨by decide +kernel, Nat.zero_le _⟩
        · rw [List.mem_singleton.mp hd]; exact ⟨rfl, Nat.zero_le _⟩
      refine ⟨_, rfl, t2, _, 0, _, rfl, rfl, dd, rfl, rfl, _, rfl, iteT ?_⟩
      refine ⟨_, rfl, _, rfl, _, _, d1, d2, nc.shaped (by decide), nc.shaped (by decide), ?_⟩
      rw [nc.refl]
      exact ⟨_, rfl, iteT ⟨_, rfl, t1, _, 1, _, rfl, rfl, tt4, rfl, _, _, _, _, false, rfl, .ty _, .base (.non), kit_ty (by decide +kernel), _, rfl, fin H4 S24⟩⟩
    | ok ss ps =>
      obtain ⟨u1, h1, t5, x5, pa5, e5, h2, h3, h4⟩ := tt
      cases e5
      obtain ⟨u2, sv, pv2, g1, g2, g3, g4, g5, g6⟩ := dd
      have E4 := same_extN S4
      have h1 := sqT_ext E4 h1
      have h2 := sqT_ext E4 h2
      have h3 := boxAt_ext E4 h3
      have h4 := dp_ext S4 h4
      refine ⟨_, rfl, t2, _, 0, _, rfl, rfl, g1, rfl, rfl, _, rfl, iteF ?_⟩
      refine ⟨_, rfl, t1, _, 0, _, rfl, rfl, h1, rfl, rfl, _, rfl, iteT ?_⟩
      refine ⟨_, rfl, t1, _, 1, _, rfl, rfl, h1, rfl, _, rfl, t2, _, 1, _, rfl, rfl, g1, rfl, u2, _, 0, _, rfl, rfl, g2, rfl, ?_⟩
      intro x dx hx hdx hxd
      have S5 : Same H4 (upd (upd H4 dx (.own x)) x (.ins (cBx K) dx [])) := (same_upd hdx).trans (same_upd (by rw [upd_ne (Ne.symm hxd)]; exact hx))
      refine ⟨x, dx, sv, ss, rfl, upd_same, dp_ext (same_to_del S5 hx) g3, by omega, fun _ H5 S6 hx5 => ⟨rfl, ?_⟩, fun p hp => by rw [g6] at hp; cases hp⟩
      have S45 : Same H4 H5 := (same_to_del S5 hx).trans (S6.trans (del_sub _ _))
      have E45 := same_extN S45
      refine ⟨_, rfl, t2, _, 1, _, rfl, rfl, sqT_ext E45 g1, rfl, u2, _, 1, _, rfl, rfl, sqT_ext E45 g2, rfl, (by show 2 ≤ sizeLine; decide), fun p hp => ?_⟩
      have S56 := same_upd (o := .tup [.ref x, pv2]) hp
      have S46 := S45.trans S56
      have E46 := same_extN S46
      obtain ⟨pb, ys, rfl, hpb, hys⟩ := dp_tup g4
      obtain ⟨_, zs, e, hpc, hzs⟩ := dp_tup h4
      cases e
      have hB : BoxAt K H5 x ss := ⟨dx, sv, hx5, dp_ext S45 g3⟩
      have hB6 := boxAt_ext (same_extN S56) hB
      have h36 := boxAt_ext E46 h3
      refine ⟨⟨u1, p, _, _, rfl, rfl, sqT_ext E46 h2, SqT.of upd_same, Prs.cons (.inl ?_) (Prs.cons (.inr ?_) Prs.nil)⟩, fun H' e => fin H' (S24.trans (S46.trans e))⟩
      · obtain ⟨da, va, ea, fa2⟩ := h36
        obtain ⟨db, vb, eb, fb2⟩ := hB6
        exact ⟨x5, x, da, db, _, _, rfl, rfl, ea, eb, ss, ⟨da, va, ea, fa2⟩, ⟨db, vb, eb, fb2⟩⟩
      · exact ⟨pa5, pb, _, _, rfl, rfl, sqT_ext E46 hpc, sqT_ext E46 hpb, prs_of (dpAll_ext S46 hzs) (dpAll_ext S46 hys)⟩
end
end K45

namespace K45
open PySem PySem.Spec PyProof.Rows L2
/-! ### data of scripts -/
def scrD : ScrOut → PyData
  | .line n => .tuple [.str "line", .int n]
  | .script => .tuple [.str "script", .none]
  | .ok rows => .tuple [.str "let", .tuple (rows.map encR)]
section
variable {K : PySem.W.Frag} {H H1 H2 : Hp} {h t : Addr}
theorem toldS_dp {out : ScrOut} (x : ToldS K H t out) : Dp K H (.ref t) (scrD out) := by
  cases out with
  | line n => exact .tup x (.cons (.str _) (.cons (.int _) .nil))
  | script => exact .tup x (.cons (.str _) (.cons .non .nil))
  | ok rows =>
    obtain ⟨v, h1, h2⟩ := x
    exact .tup h1 (.cons (.str _) (.cons h2 .nil))
theorem dueS_dp {out : ScrOut} (x : DueS K H t out) : Dp K H (.ref t) (scrD out) := by
  cases out with
  | line n => exact .tup x (.cons (.str _) (.cons (.int _) .nil))
  | script => exact .tup x (.cons (.str _) (.cons .non .nil))
  | ok rows =>
    obtain ⟨v, h1, h2, _⟩ := x
    exact .tup h1 (.cons (.str _) (.cons h2 .nil))
theorem nice_two {n : Nat} {a b : PyData} (h1 : Nice n a) (h2 : Nice n b) : Nice (n + 1) (.tuple [a, b]) := nice_tup fun d hd => by
  rcases List.mem_cons.mp hd with z | hd
  · rw [z]; exact h1
  · rw [List.mem_singleton.mp hd]; exact h2
theorem nice_scr {m : Nat} {text : Str} (hl : text.length ≤ 900000) : Nice 4 (scrD (scrOut m text)) := by
  unfold scrOut
  cases e : reads rowStroke (linesOf text) with
  | inl n => exact (nice_two (n := 0) ⟨by decide +kernel, Nat.le_refl _⟩ nice_int).mono (by decide)
  | inr rows =>
    show Nice 4 (scrD (scrRows m rows))
    unfold scrRows
    split
    · refine nice_two (n := 3) ⟨by decide +kernel, Nat.zero_le _⟩ (nice_tup fun d hd => ?_)
      obtain ⟨r, hr, rfl⟩ := List.mem_map.mp hd
      obtain ⟨hw, _⟩ := rows_stroke e hl hr
      have hs : Nice 1 (PyData.str r.1) := by
        rcases hw with z | z
        · rw [z]; exact ⟨by decide +kernel, Nat.zero_le _⟩
        · rw [z]; exact ⟨by decide +kernel, Nat.zero_le _⟩
      exact nice_two hs nice_ints
    · exact (nice_two (n := 0) ⟨by decide +kernel, Nat.le_refl _⟩ nice_non).mono (by decide)
theorem nice_line0 : Nice 1 (.tuple [.str "line", .int 0]) := nice_two (n := 0) ⟨by decide +kernel, Nat.le_refl _⟩ nice_int
theorem line0_dp (x : SqT K H t [.str "line", .int 0]) : Dp K H (.ref t) (.tuple [.str "line", .int 0]) := .tup x (.cons (.str _) (.cons (.int _) .nil))
theorem told_bad {Q : VK} (q : ∀ H' t, Same H H' → SqT K H' t [.str "line", .int 0] → Q (.ref t) H') : XOut (toldE K Q) (cBT K) "line" 0 H := fun H' d S hd hx => .inl ⟨rfl, d, 0, rfl, hx, fun p hp => q _ p (S.trans (same_upd hp)) (SqT.of upd_same)⟩
/-! ### the hand turns, lambdas are made -/
theorem HandAt.extN (x : HandAt K H h) (e : LamX.ExtN H H1) : HandAt K H1 h := by
  obtain ⟨c, i, b, s, k, ns, x⟩ := x
  exact ⟨c, i, b, s, k, ns, e _ _ x.at_ (fun ps z => by cases z), sqL_ext (extN_del h e) x.cs, x.i0, x.b0, x.n0, x.nl⟩
theorem tabs_step (x : HandAt K H h) (st : Step K h H H1) {T : List (Addr × Str)} (t : LamX.Tabs T H) : LamX.Tabs T H1 := fun p hp => by
  obtain ⟨ps, e1, e2, e3⟩ := t p hp
  obtain ⟨o, ho⟩ := hand_here x
  obtain ⟨c, i, b, s, k, ns, y⟩ := x
  have ha := y.at_
  have n1 : p.1 ≠ h := fun z => by rw [z, ha] at e1; cases e1
  refine ⟨ps, del_sub _ _ _ _ (st.2 _ _ (by rw [del_ne n1]; exact e1)), e2, fun pos cv hcv => ?_⟩
  obtain ⟨c', rfl, hc'⟩ := e3 pos cv hcv
  have n2 : c' ≠ h := fun z => by rw [z, ha] at hc'; unfold LamX.CodeO at hc'; cases hc'
  exact ⟨c', rfl, del_sub _ _ _ _ (st.2 _ _ (by rw [del_ne n2]; exact hc'))⟩
structure LStep (K : PySem.W.Frag) (h : Addr) (H H' : Hp) : Prop where
  h1 : HandAt K H' h
  s2 : LamX.ExtN (del H h) (del H' h)
  t3 : LamX.Tabs (tabsK K) H'
theorem LStep.refl (x : HandAt K H h) (t : LamX.Tabs (tabsK K) H) : LStep K h H H := ⟨x, LamX.ExtN.refl _, t⟩
theorem LStep.step (a : LStep K h H H1) (b : Step K h H1 H2) : LStep K h H H2 := ⟨b.1, a.2.trans (same_extN b.2), tabs_step a.1 b a.3⟩
theorem LStep.ext (a : LStep K h H H1) (e : LamX.ExtN H1 H2) (t : LamX.Tabs (tabsK K) H2) : LStep K h H H2 := ⟨a.1.extN e, a.2.trans (extN_del h e), t⟩
theorem LStep.same (a : LStep K h H H1) (e : Same H1 H2) : LStep K h H H2 := a.ext (same_extN e) (a.3.ext e)
theorem LStep.trans (a : LStep K h H H1) (b : LStep K h H1 H2) : LStep K h H H2 := ⟨b.1, a.2.trans b.2, b.3⟩
theorem NotS.of {a : Addr} (e : (∃ xs, H a = some (.lst xs)) ∨ (∃ xs, H a = some (.tup xs)) ∨ (∃ kvs, H a = some (.dK kvs)) ∨ ∃ dx fs, H a = some (.ins (cBx K) dx fs)) : NotS K H (.ref a) := .inr (.inr (.inr ⟨a, rfl, e⟩))
end
def farLine (i : Nat) : Str := (("box 1 1 " : Str) ++ strOf (2 * (0 + (i : Int)))) ++ (" 0" : Str)
theorem farLine_len {i : Nat} (h : i ≤ 50) : (farLine i).length ≤ 30 := by
  unfold farLine
  rw [len_app, len_app]
  have e1 := strOf_len (i := 2 * (0 + (i : Int))) (by omega)
  have e2 : (("box 1 1 " : Str)).length = 8 := by decide +kernel
  have e3 : ((" 0" : Str)).length = 2 := by decide +kernel
  omega
theorem tot_all {b : Nat} : ∀ {l : List Str}, (∀ x ∈ l, x.length ≤ b) → tot l ≤ (b + 1) * l.length
  | [], _ => by simp [tot_nil]
  | x :: l, h => by
    have e1 := h x List.mem_cons_self
    have e2 := tot_all (l := l) fun y hy => h y (List.mem_cons_of_mem _ hy)
    rw [tot_cons, List.length_cons, Nat.mul_succ]
    omega
theorem repS_len (x : Str) (n : Nat) : (repS x n).length = n * x.length := by
  unfold repS PySem.Str.length
  simp [List.length_flatten]
section
variable {P : Program} {w : World} {K : PySem.W.Frag} {mg : Str → Option Value} {base : Heap}
def spFar (K : PySem.W.Frag) : Sp := fun vs H Q _ => ∃ (h x : Addr) (ss : List II), vs = [.ref h, .ref x] ∧ HandAt K H h ∧ BoxAt K (del H h) x ss ∧ 1 ≤ ss.length ∧ ss.length ≤ 40 ∧ LamX.Tabs (tabsK K) H ∧ ∀ H', Q (.bl true) H'
theorem ok_law_far_right (T : Txt K mg) (TB : TabsB K mg base) : CalX P w K mg base CX0 11 "_law_far_right" (spFar K) := by
  obtain ⟨fd, F⟩ := T.d__law_far_right
  obtain ⟨ft, FT⟩ := T.d__law_told
  have kpT := FT.kp
  have bT := FT.bindsN (ps := ["_law_ask"]) fun _ _ _ _ _ _ us hl => match us, hl with | [_], _ => rfl
  obtain ⟨oc, od, dV, kV, doc, pm, an, cdT, ct, osl, rfl, lkT, hcT, _, _⟩ := FT.ex
  have M := T.mo
  have sg : FnScope ["_law_ask", "_law_told_here", "e"] ["_law_ask"] (defScope (top 59)) := C8.fnScope_by (by decide +kernel)
  have sc : FnScope ["_law_hand_here", "_law_boxes", "_law_line", "_law_many", "_law_row", "_law_text", "_law_odd", "_law_box"] ["_law_hand_here", "_law_boxes"] (defScope (top 63)) := C8.fnScope_by (by decide +kernel)
  have tb : LamX.TabB base mg (tabC K "_law_far_right") (tabP K "_law_far_right") := TB _ (List.mem_map.mpr ⟨("_law_far_right", none), List.mem_cons_of_mem _ List.mem_cons_self, rfl⟩)
  refine mk_calT ["_law_hand_here", "_law_boxes", "_law_line", "_law_many", "_law_row", "_law_text", "_law_odd", "_law_box"] ["_law_hand_here", "_law_boxes"] F T.g__law_far_right sc (fun _ _ _ _ _ _ us hl => match us, hl with | [_, _], _ => rfl) (fun vs H Q E h => ?_) (fun A outer s H vs Q E hr h => ⟨_,
      pss_cons (ps_asg (pe_tup (pa_cons pe_str (pa_cons (pe_op op_add pe_int (pe_0 (ok_law_draw T) hr (by decide) rfl (pa_cons (pv 0) (pa_cons pe_int pa_nil)))) pa_nil))) (pg_tup rfl (pgs_cons (pg_name (i := 2) sc.nd rfl (Or.inr rfl)) (pgs_cons (pg_name (i := 3) sc.nd rfl (Or.inl rfl)) pgs_nil))))
      (pss_cons (ps_if (pt_not (pt_val (pe_0 (ok_law_picture_right T TB) hr (by decide) rfl (pa_cons (pe_0 (ok_law_closed_lines T) hr (by decide) rfl (pa_cons
          (pe_lc (own := [("_law_box", 7)]) (g := gName 7) (tt := tYes) rfl sc.nd (pi_range1 rfl T.f_range (pa_cons (pv 3) pa_nil)) (blkOk_by (own := [("_law_box", 7)]) (N := ["_law_hand_here", "_law_boxes", "_law_line", "_law_many", "_law_row", "_law_text", "_law_odd", "_law_box"]) (sc := defScope (top 63)) (by decide +kernel))
            (fun _ _ _ _ _ => pg_name (i := 7) sc.nd rfl (Or.inl rfl)) (fun _ _ _ _ _ => pts_nil) (fun _ _ _ _ _ => pe_op op_add_str (pe_op op_add_str (pv 2) (pe_callTy call_str_int rfl T.f_str (by decide +kernel) (pa_cons (pe_op op_mul pe_int (pv 7)) pa_nil))) pe_str)) pa_nil)) pa_nil))))
        (pss_one (ps_ret pe_bl)) pss_nil)
      (pss_cons (ps_par (i := 4) (j := 3) rfl sc.nd rfl rfl (by decide) rfl rfl (pa_cons (pe_op op_add_str pe_str (pe_op op_repS pe_str (pe_fld (pv 1) rfl))) (pa_cons (pe_op op_add pe_int (pe_0 (ok_law_draw T) hr (by decide) rfl (pa_cons (pv 0) (pa_cons pe_int pa_nil)))) pa_nil)) rfl)
      (pss_cons (ps_set (i := 5) sc.nd rfl (Or.inr rfl) (pe_0 (ok_law_closed_lines T) hr (by decide) rfl (pa_cons (pe_op op_rep (pe_lst (pa_cons (pv 4) pa_nil)) (pv 3)) pa_nil)))
      (pss_cons (ps_if (pt_cmpR (op_neD hr.units)
          (LamX.pe_lamcall (T := tabsK K) (TT := TTold K) (k := 7) rfl T.g__law_told kpT lkT hcT bT sg rfl (Or.inl rfl) (told_gives T) tb rfl (tabs_in2 K) (tabs_u2 T) (hr.mono (by decide)) (LamX.lamS_by (sc := defScope (top 63)) (by decide +kernel)) rfl (fun _ _ _ _ _ => rfl)
            (fun A outer s H E f c' hr2 => pe_x (ok_read_script T) hr2 (by decide) (E := E) (passes_call (takes_of rfl rfl rfl rfl) fun _ _ _ _ z => z) rfl (pa_cons (pv 1) (pa_cons (pv 5) pa_nil))))
          (pe_0 (ok_law_due_script T) hr (by decide) rfl (pa_cons (pv 5) (pa_cons (pe_fld (pv 1) rfl) pa_nil))) (nomark _)) (pss_one (ps_ret pe_bl)) pss_nil)
      (pss_cons (ps_set (i := 6) sc.nd rfl (Or.inr rfl) (pe_0 (ok_law_any T) hr (by decide) rfl (pa_cons (pv 0) (pa_cons (pe_lst (pa_cons pe_non (pa_cons pe_int (pa_cons pe_bl (pa_cons (pe_lst (pa_cons pe_str pa_nil)) (pa_cons (pe_tup (pa_cons pe_str pa_nil)) (pa_cons pe_dnewK (pa_cons (pv 1) (pa_cons (pe_0 (ok_law_deep T) hr (by decide) rfl (pa_cons (pv 0) pa_nil)) pa_nil))))))))) pa_nil))))
      (pss_cons (ps_if (pt_cmpR (op_neD hr.units)
          (LamX.pe_lamcall (T := tabsK K) (TT := TTold K) (k := 7) rfl T.g__law_told kpT lkT hcT bT sg rfl (Or.inl rfl) (told_gives T) tb rfl (tabs_in2 K) (tabs_u2 T) (hr.mono (by decide)) (LamX.lamS_by (sc := defScope (top 63)) (by decide +kernel)) rfl (fun _ _ _ _ _ => rfl)
            (fun A outer s H E f c' hr2 => pe_x (ok_read_picture T) hr2 (by decide) (E := E) (passes_call (takes_of rfl rfl rfl rfl) fun _ _ _ _ z => z) rfl (pa_cons (pv 6) pa_nil)))
          (pe_tup (pa_cons pe_str (pa_cons pe_int pa_nil))) (nomark _)) (pss_one (ps_ret pe_bl)) pss_nil)
      (pss_one (ps_ret (pe_cmpR (op_eqD hr.units)
          (LamX.pe_lamcall (T := tabsK K) (TT := TTold K) (k := 7) rfl T.g__law_told kpT lkT hcT bT sg rfl (Or.inl rfl) (told_gives T) tb rfl (tabs_in2 K) (tabs_u2 T) (hr.mono (by decide)) (LamX.lamS_by (sc := defScope (top 63)) (by decide +kernel)) rfl (fun _ _ _ _ _ => rfl)
            (fun A outer s H E f c' hr2 => pe_x (ok_read_script T) hr2 (by decide) (E := E) (passes_call (takes_of rfl rfl rfl rfl) fun _ _ _ _ z => z) rfl (pa_cons (pv 1) (pa_cons (pv 6) pa_nil))))
          (pe_tup (pa_cons pe_str (pa_cons pe_int pa_nil))) (nomark _)))))))))), ?_⟩)
  · obtain ⟨h, x, ss, rfl, _⟩ := h; rfl
  · obtain ⟨h, x, ss, rfl, hh, hx, hs1, hs40, ht, q⟩ := h
    have L0 := LStep.refl hh ht
    refine ⟨_, rfl, h, 4, rfl, hh, by decide, by decide, fun H1 n T1 n0 n4 => ⟨_, _, rfl, rfl, (by show 2 ≤ sizeLine; decide), fun t1 ht1 => ⟨t1, _, rfl, SqT.of upd_same, rfl, _, _, rfl, _, _, rfl, rfl, ?_⟩⟩⟩
    have L2' := (L0.step T1).same (same_upd (o := .tup [.str "box 1 1 ", .int (39 + n)]) ht1)
    generalize upd H1 t1 (.tup [.str "box 1 1 ", .int (39 + n)]) = H2 at *
    refine ⟨_, rfl, _, rfl, by omega, by omega, fun D hD => lc_dp (K := K) (walk_range (lo := 0) (n := (39 + n).toNat)) (((List.range (39 + n).toNat).map farLine).map PyData.str) (by simp) (le_line (by omega)) hD (fun _ _ => trivial) yFn_same (fun i y H3 H4 d Qc hd h3 hacc hY hQ => ?_) (fun H3 ys h3 hD3 hds3 => ?_)⟩
    · obtain ⟨rfl, rfl⟩ := hY
      by_cases hi : i < (39 + n).toNat
      · rw [List.map_map, List.getElem?_map, List.getElem?_range hi] at hd
        cases hd
        have e2 : (("box 1 1 " : Str)).length = 8 := by decide +kernel
        have e3 : ((" 0" : Str)).length = 2 := by decide +kernel
        have e1 := strOf_len (i := 2 * (0 + (i : Int))) (by omega)
        refine ⟨rfl, _, rfl, _, rfl, _, _, rfl, rfl, .inl ⟨by decide, by decide⟩, _, rfl, log_small (by omega), _, _, rfl, rfl, le_line ?_, _, _, rfl, rfl, le_line ?_, hQ _ _ (Same.refl _) (.str _)⟩
        · show _ + (strOf (2 * (0 + (i : Int)))).length ≤ _
          omega
        · show ((("box 1 1 " : Str)) ++ strOf (2 * (0 + (i : Int)))).length + _ ≤ _
          rw [len_app]
          omega
      · rw [List.getElem?_eq_none (by simp; omega)] at hd
        cases hd
    · cases dpAll_strs hds3
      have hln : ∀ y ∈ (List.range (39 + n).toNat).map farLine, y.length ≤ 30 := fun y hy => by
        obtain ⟨i, hi, rfl⟩ := List.mem_map.mp hy
        have := List.mem_range.mp hi
        exact farLine_len (by omega)
      have htt := tot_all hln
      rw [List.length_map, List.length_range] at htt
      generalize (List.range (39 + n).toNat).map farLine = ls at *
      have L3 := L2'.same (h3.trans (del_sub _ _))
      have hz := textOf_len ls
      refine ⟨D, ls, rfl, SqL.of hD3, by omega, fun H4 S4 => ?_⟩
      have L4 := L3.same S4
      refine ⟨textOf ls, rfl, by omega, L4.3, fun H5 X5 t5 => ⟨_, rfl, iteF ?_⟩⟩
      have L5 := L4.ext X5 t5
      have hx5 := boxAt_ext L5.2 hx
      obtain ⟨dx, sv, hx6, hsv⟩ := boxAt_ext (same_extN (del_sub H5 h)) hx5
      have el : ((" 0" : Str)).length = 2 := by decide +kernel
      have eu : (("upright" : Str)).length = 7 := by decide +kernel
      refine ⟨_, rfl, x, _, _, _, _, rfl, hx6, T.cls, T.no_many, lk_m, _, _, rfl, rfl, by rw [el]; decide, by rw [el]; decide, by omega, by omega, _, _, rfl, rfl, le_line ?_, ?_⟩
      · rw [repS_len, el, eu]
        omega
      have rl : ((("upright" : Str)) ++ repS " 0" (ss.length : Int).toNat).length ≤ 87 := by
        rw [len_app, repS_len, el, eu]
        omega
      generalize (("upright" : Str)) ++ repS " 0" (ss.length : Int).toNat = row at *
      refine ⟨_, rfl, h, 4, rfl, L5.1, by decide, by decide, fun H6 m T6 m0 m4 => ⟨_, _, rfl, rfl, _, _, rfl, ?_⟩⟩
      have L6 := L5.step T6
      refine ⟨_, rfl, (by show 1 ≤ sizeLine; decide), fun rl1 hrl1 => ⟨_, rfl, rl1, _, _, rfl, rfl, upd_same, by omega, by omega, by rw [sizeLine_eq]; show 1 * _ ≤ _; omega, fun p hp => ?_⟩⟩
      have S6 := (same_upd (o := .lst [.str row]) hrl1).trans (same_upd (o := .lst (List.replicate (199 + m).toNat [V.str row]).flatten) hp)
      have L7 := L6.same S6
      have efl : ∀ k : Nat, (List.replicate k [V.str row]).flatten = (List.replicate k row).map V.str := fun k => by
        induction k with
        | zero => rfl
        | succ k ih => rw [List.replicate_succ, List.replicate_succ, List.flatten_cons, ih]; rfl
      have hp7 : (upd (upd H6 rl1 (.lst [.str row])) p (.lst (List.replicate (199 + m).toNat [V.str row]).flatten)) p = some (.lst ((List.replicate (199 + m).toNat row).map V.str)) := by rw [← efl]; exact upd_same
      generalize upd (upd H6 rl1 (.lst [.str row])) p (.lst (List.replicate (199 + m).toNat [V.str row]).flatten) = H7 at *
      have htt2 := tot_all (b := 87) (l := List.replicate (199 + m).toNat row) fun y hy => by rw [List.eq_of_mem_replicate hy]; exact rl
      rw [List.length_replicate] at htt2
      have hz2 := textOf_len (List.replicate (199 + m).toNat row)
      refine ⟨p, List.replicate (199 + m).toNat row, rfl, SqL.of hp7, by omega, fun H8 S8 => ?_⟩
      generalize textOf (List.replicate (199 + m).toNat row) = text at *
      have hl : text.length ≤ 900000 := by omega
      have L8 := L7.same S8
      have hx8 := boxAt_ext ((same_extN (del_sub _ _))) (boxAt_ext L8.2 hx)
      refine ⟨L8.3, fun H9 X9 T9 H10 S10 Kn hk => ⟨_, rfl, _, rfl, x, ss, _, rfl, boxAt_ext (X9.trans (same_extN S10)) hx8, .inr ⟨text, rfl, hl, told_scr (fun H11 t2 S11 tt => ?_) hk⟩⟩⟩
      have L11 := (L8.ext X9 T9).same (S10.trans S11)
      obtain ⟨dx2, sv2, hx11, hsv2⟩ := boxAt_ext ((same_extN (del_sub _ _))) (boxAt_ext L11.2 hx)
      refine ⟨_, rfl, _, rfl, x, _, _, _, _, rfl, hx11, T.cls, T.no_many, lk_m, text, ss.length, rfl, hl, fun H12 t3 S12 dd => ?_⟩
      have L12 := L11.same S12
      have nc := nice_scr (m := ss.length) hl
      refine ⟨_, _, dp_ext S12 (toldS_dp tt), dueS_dp dd, nc.shaped (by decide), nc.shaped (by decide), _, rfl, ?_⟩
      rw [nc.refl]
      refine iteF ?_
      -- the odd one
      have hh12 := hand_here L12.1
      refine ⟨_, rfl, (by show 1 ≤ sizeLine; decide), fun l1 hl1 => ⟨(by show 1 ≤ sizeLine; decide), fun u1 hu1 => fun d1 hd1 => ?_⟩⟩
      have S13 := same_upd (o := .lst [.str "box 1 1 0 0"]) hl1
      have S14 := same_upd (o := .tup [.str ""]) hu1
      have S15 := same_upd (o := .dK []) hd1
      have n1 : l1 ≠ h := Ne.symm (by obtain ⟨o, ho⟩ := hh12; exact ne_of_none ho hl1)
      have n2 : u1 ≠ h := Ne.symm (by obtain ⟨o, ho⟩ := hh12; exact ne_of_none (S13 _ _ ho) hu1)
      have n3 : d1 ≠ h := Ne.symm (by obtain ⟨o, ho⟩ := hh12; exact ne_of_none (S14 _ _ (S13 _ _ ho)) hd1)
      have X15 := Step.same L12.1 (S13.trans (S14.trans S15))
      have o1 : NotS K (del (upd (upd (upd H12 l1 (.lst [.str "box 1 1 0 0"])) u1 (.tup [.str ""])) d1 (.dK [])) h) (.ref l1) := NotS.of (.inl ⟨_, by rw [del_ne n1]; exact S15 _ _ (S14 _ _ upd_same)⟩)
      have o2 : NotS K (del (upd (upd (upd H12 l1 (.lst [.str "box 1 1 0 0"])) u1 (.tup [.str ""])) d1 (.dK [])) h) (.ref u1) := NotS.of (.inr (.inl ⟨_, by rw [del_ne n2]; exact S15 _ _ upd_same⟩))
      have o3 : NotS K (del (upd (upd (upd H12 l1 (.lst [.str "box 1 1 0 0"])) u1 (.tup [.str ""])) d1 (.dK [])) h) (.ref d1) := NotS.of (.inr (.inr (.inl ⟨_, by rw [del_ne n3]; exact upd_same⟩)))
      have L15 := L12.step X15
      have o4 : NotS K (del (upd (upd (upd H12 l1 (.lst [.str "box 1 1 0 0"])) u1 (.tup [.str ""])) d1 (.dK [])) h) (.ref x) := by
        obtain ⟨dx3, sv3, hx15, _⟩ := boxAt_ext L15.2 hx
        exact NotS.of (.inr (.inr (.inr ⟨_, _, hx15⟩)))
      generalize upd (upd (upd H12 l1 (.lst [.str "box 1 1 0 0"])) u1 (.tup [.str ""])) d1 (.dK []) = H15 at *
      refine ⟨_, rfl, _, rfl, h, rfl, L15.1, fun H16 y T16 oy => ⟨(by show 8 ≤ sizeLine; decide), fun p8 hp8 => ?_⟩⟩
      have S17 := same_upd (o := .lst [.non, .int 0, .bl true, .ref l1, .ref u1, .ref d1, .ref x, y]) hp8
      have X17 := Step.same T16.1 S17
      have n4 : p8 ≠ h := Ne.symm (by obtain ⟨o, ho⟩ := hand_here T16.1; exact ne_of_none ho hp8)
      have L17 := (L15.step T16).step X17
      refine ⟨h, p8, _, rfl, X17.1, SqL.of (by rw [del_ne n4]; exact upd_same), (by show 0 < 8; decide), (by show 8 ≤ 1000000; decide), fun H18 z T18 hz => ?_⟩
      have L18 := L17.step T18
      have E16 := same_extN T16.2
      have E18 := (same_extN X17.2).trans (same_extN T18.2)
      have oz : NotS K H18 z := by
        refine NotS.ext (same_extN (del_sub _ h)) ?_
        simp only [List.mem_cons, List.not_mem_nil, or_false] at hz
        rcases hz with rfl | rfl | rfl | rfl | rfl | rfl | rfl | rfl
        · exact .inl rfl
        · exact .inr (.inr (.inl ⟨_, rfl⟩))
        · exact .inr (.inl ⟨_, rfl⟩)
        · exact (o1.ext E16).ext E18
        · exact (o2.ext E16).ext E18
        · exact (o3.ext E16).ext E18
        · exact (o4.ext E16).ext E18
        · exact oy.ext E18
      refine ⟨L18.3, fun H19 X19 T19 H20 S20 Kn hk => ⟨_, rfl, z, rfl, .inl ⟨(oz.ext (X19.trans (same_extN S20))).notStr T, told_bad fun H21 t4 S21 tt => ?_⟩⟩⟩
      have L21 := (L18.ext X19 T19).same (S20.trans S21)
      refine ⟨(by show 2 ≤ sizeLine; decide), fun t5 ht5 => ?_⟩
      have S22 := same_upd (o := .tup [.str "line", .int 0]) ht5
      have L22 := L21.same S22
      have oz22 : NotS K (upd H21 t5 (.tup [.str "line", .int 0])) z := ((oz.ext X19).ext (same_extN (S20.trans S21))).ext (same_extN S22)
      have dt := line0_dp (sqT_ext (same_extN S22) tt)
      have dn : Dp K (upd H21 t5 (.tup [.str "line", .int 0])) (.ref t5) (.tuple [.str "line", .int 0]) := line0_dp (SqT.of upd_same)
      refine ⟨_, _, dt, dn, nice_line0.shaped (by decide), nice_line0.shaped (by decide), _, rfl, ?_⟩
      rw [nice_line0.refl]
      refine iteF ?_
      generalize upd H21 t5 (.tup [.str "line", .int 0]) = H22 at *
      have hx22 := boxAt_ext ((same_extN (del_sub _ _))) (boxAt_ext L22.2 hx)
      refine ⟨L22.3, fun H23 X23 T23 H24 S24 Kn2 hk2 => ⟨_, rfl, _, rfl, x, ss, z, rfl, boxAt_ext (X23.trans (same_extN S24)) hx22, .inl ⟨(oz22.ext (X23.trans (same_extN S24))).notStr T, told_bad fun H25 t6 S25 tt2 => ?_⟩⟩⟩
      refine ⟨(by show 2 ≤ sizeLine; decide), fun t7 ht7 => ⟨_, _, line0_dp (sqT_ext (same_extN (same_upd ht7)) tt2), line0_dp (SqT.of upd_same), nice_line0.shaped (by decide), nice_line0.shaped (by decide), ?_⟩⟩
      rw [nice_line0.refl]
      exact q _
end
end K45

namespace K45
open PySem PySem.Spec PyProof.Rows L2
section
variable {K : PySem.W.Frag} {H H0 H1 : Hp} {h a D : Addr}
/-- what is new may be written -/
theorem step_put2 {o : HO} (x0 : HandAt K H0 h) (st : Step K h H0 H) (e0 : H0 a = none) (ha : a ≠ h) : Step K h H0 (upd H a o) := by
  refine ⟨?_, fun b u hb => ?_, fun c r e => let ⟨r', e'⟩ := st.3 c r e; ⟨r', by rw [upd_ne (Ne.symm ha)]; exact e'⟩⟩
  · obtain ⟨c0, i0, b0, s0, k0, ns0, x0⟩ := x0
    obtain ⟨r', e'⟩ := st.3 c0 _ x0.at_
    obtain ⟨c, i, b, s, k, ns, y⟩ := st.1
    have ec := y.at_
    rw [e'] at ec
    have ec2 : c0 = c := by cases ec; rfl
    subst ec2
    have at2 : (upd H a o) h = some (.lst [.ref c0, .int i, .int b, .int s, .int k]) := by rw [upd_ne (Ne.symm ha)]; exact y.at_
    rcases x0.cs with r0 | l0
    · have hca : c0 ≠ a := fun z => by
        subst z
        have : ∃ u, (del H0 h) c0 = some u := by
          rcases r0 with r0 | ⟨u, r0⟩
          · exact ⟨_, r0⟩
          · exact ⟨_, r0⟩
        obtain ⟨u, hu⟩ := this
        rw [del_sub _ _ _ _ hu] at e0
        cases e0
      refine ⟨c0, i, b, s, k, ns, at2, ?_, y.i0, y.b0, y.n0, y.nl⟩
      rw [del_upd_ne ha]
      rcases y.cs with r1 | l1
      · refine .inl ?_
        unfold Rd
        rw [upd_ne hca]
        exact r1
      · exact .inr l1
    · exact ⟨c0, i, b, s, k, ns0, at2, .inr l0, y.i0, y.b0, x0.n0, x0.nl⟩
  · have hba : b ≠ a := fun z => by
      subst z
      rw [del_ne ha, e0] at hb
      cases hb
    rw [del_upd_ne ha, upd_ne hba]
    exact st.2 b u hb
/-- a list of texts stays where it stands -/
theorem strs_step {ls : List Str} (x : HandAt K H h) (st : Step K h H H1) (e : H a = some (.lst (ls.map V.str))) : H1 a = some (.lst (ls.map V.str)) := del_sub _ _ _ _ (st.2 _ _ (by rw [del_ne (strs_hand x e)]; exact e))
/-- a comprehension that turns the hand and makes texts -/
theorem lc_hand {J : It} {n : Nat} {G : Hp → Prop} {Y : Nat → Hp → V → Hp → Prop} (w : Walk J n G Y) {g : TG} {te : TE} {vs : List Nat} {σ : L2.St} {Qd : Hp → Prop} (x0 : HandAt K H1 h) (hz : n ≤ sizeLine) (hD : H1 D = none)
    (hG : ∀ H, Step K h H1 H → G H) (hY : ∀ i H x H', Y i H x H' → Same H H')
    (hs : ∀ (i : Nat) (x : V) (H H' : Hp) (Qc : VK), Step K h H1 H' → Y i H x H' → (∀ s H4, Step K h H' H4 → s.length ≤ 10 → Qc (.str s) H4) → g x (wipe σ vs) H' fun σ2 H2 => wipe σ2 vs = wipe σ vs ∧ te σ2 H2 Qc)
    (hd : ∀ H (ys : List Str), Step K h H1 H → H D = some (.lst (ys.map V.str)) → ys.length = n → (∀ y ∈ ys, y.length ≤ 10) → Qd H) :
    ∃ W : Nat → Nat → Hp → Prop, (∃ m, W 0 m (upd H1 D (.lst []))) ∧ ∀ i m H, W i m H →
      (J.stop i H ∧ Qd H) ∨ (J.go i H ∧ ∃ Nx : Hp → Prop, (∀ H', Nx H' → ∃ m', m' < m ∧ W (i + 1) m' H') ∧ ∀ x H', J.yld i H x H' → g x (wipe σ vs) H' fun σ2 H2 => wipe σ2 vs = wipe σ vs ∧ tYes σ2 H2 fun b H3 =>
        if b = true then te σ2 H3 fun y H4 => ∃ acc, H4 D = some (.lst acc) ∧ acc.length < sizeLine ∧ Nx (upd H4 D (.lst (acc ++ [y]))) else Nx H3) := by
  have hDh : D ≠ h := Ne.symm (by obtain ⟨o, ho⟩ := hand_here x0; exact ne_of_none ho hD)
  refine lc_it w (fun i H => Step K h H1 H ∧ ∃ ys : List Str, H D = some (.lst (ys.map V.str)) ∧ ys.length = i ∧ ∀ y ∈ ys, y.length ≤ 10) ⟨Step.same x0 (same_upd hD), [], upd_same, rfl, fun y hy => (List.not_mem_nil hy).elim⟩ (fun i H _ hI => hG H hI.1) (fun i x H H' hi hI hy => ?_) (fun H hI => ?_)
  · obtain ⟨hS, ys, hys, hyl, hyb⟩ := hI
    have S1 := hY i H x H' hy
    have T1 := hS.trans (Step.same hS.1 S1)
    have key := hs i x H H' (fun y H4 => ∃ acc, H4 D = some (.lst acc) ∧ acc.length < sizeLine ∧ (Step K h H1 (upd H4 D (.lst (acc ++ [y]))) ∧ ∃ ys : List Str, upd H4 D (.lst (acc ++ [y])) D = some (.lst (ys.map V.str)) ∧ ys.length = i + 1 ∧ ∀ y ∈ ys, y.length ≤ 10)) T1 hy (fun s H4 T4 hlen => ?_)
    · have ef : (fun (σ2 : L2.St) (H2 : Hp) => wipe σ2 vs = wipe σ vs ∧ tYes σ2 H2 fun b H3 => if b = true then te σ2 H3 fun y H4 => ∃ acc, H4 D = some (.lst acc) ∧ acc.length < sizeLine ∧ (Step K h H1 (upd H4 D (.lst (acc ++ [y]))) ∧ ∃ ys : List Str, upd H4 D (.lst (acc ++ [y])) D = some (.lst (ys.map V.str)) ∧ ys.length = i + 1 ∧ ∀ y ∈ ys, y.length ≤ 10) else (Step K h H1 H3 ∧ ∃ ys : List Str, H3 D = some (.lst (ys.map V.str)) ∧ ys.length = i + 1 ∧ ∀ y ∈ ys, y.length ≤ 10)) =
          (fun (σ2 : L2.St) (H2 : Hp) => wipe σ2 vs = wipe σ vs ∧ te σ2 H2 fun y H4 => ∃ acc, H4 D = some (.lst acc) ∧ acc.length < sizeLine ∧ (Step K h H1 (upd H4 D (.lst (acc ++ [y]))) ∧ ∃ ys : List Str, upd H4 D (.lst (acc ++ [y])) D = some (.lst (ys.map V.str)) ∧ ys.length = i + 1 ∧ ∀ y ∈ ys, y.length ≤ 10)) := by
        funext σ2 H2
        refine congrArg (And _) ?_
        unfold tYes
        dsimp only
        rw [if_pos rfl]
      rw [ef]
      exact key
    · have h4 := strs_step T1.1 T4 (S1 _ _ hys)
      refine ⟨_, h4, by rw [List.length_map]; omega, step_put2 x0 (T1.trans T4) hD hDh, ys ++ [s], by rw [List.map_append]; exact upd_same, by rw [List.length_append, hyl]; rfl, fun y hy => ?_⟩
      rcases List.mem_append.mp hy with z | z
      · exact hyb y z
      · rw [List.mem_singleton.mp z]; exact hlen
  · obtain ⟨hS, ys, hys, hyl, hyb⟩ := hI
    exact hd H ys hS hys hyl hyb
end
theorem small_ok {s : II} (h : smallS s) : sizeOk s = true := by
  obtain ⟨a, b, c, d⟩ := h
  unfold sizeOk
  rw [decide_eq_true a, decide_eq_true (show s.1 ≤ 1000 by omega), decide_eq_true c, decide_eq_true (show s.2 ≤ 1000 by omega)]
  rfl
section
variable {P : Program} {w : World} {K : PySem.W.Frag} {mg : Str → Option Value} {base : Heap}
def spLaw (K : PySem.W.Frag) : Sp := fun vs H Q _ => ∃ (a : Addr) (ns : List Int), vs = [.ref a] ∧ SqL K H a (ns.map V.int) ∧ ns.length ≤ 1000000 ∧ LamX.Tabs (tabsK K) H ∧ ∀ H', Q (.bl true) H'
theorem ok_law (T : Txt K mg) (TB : TabsB K mg base) {fd : FuncData} (F : FunD K "law" "law" (defArgs (top 64)) (defBody (top 64)) (defScope (top 64)) [] [] (He.ga K "law") fd) : FnOk P w K mg base CX0 12 (He.ga K "law") fd ["_law_script"] (spLaw K) := by
  obtain ⟨fb, FB, BB⟩ := ok_boxes_init (P := P) (w := w) (base := base) T
  obtain ⟨ft, FT⟩ := T.d__law_told
  have kpT := FT.kp
  have bT := FT.bindsN (ps := ["_law_ask"]) fun _ _ _ _ _ _ us hl => match us, hl with | [_], _ => rfl
  obtain ⟨oc, od, dV, kV, doc, pm, an, cdT, ct, osl, rfl, lkT, hcT, _, _⟩ := FT.ex
  have M := T.mo
  have sg : FnScope ["_law_ask", "_law_told_here", "e"] ["_law_ask"] (defScope (top 59)) := C8.fnScope_by (by decide +kernel)
  have sc : FnScope ["_law_script", "_law_hand_here", "_law_turn", "_law_sizes", "_law_places", "_law_boxes", "_law_lines", "_law_stroke", "_law_goals", "_law_box", "_law_text"] ["_law_script"] (defScope (top 64)) := C8.fnScope_by (by decide +kernel)
  have tb : LamX.TabB base mg (tabC K "law") (tabP K "law") := TB _ (List.mem_map.mpr ⟨("law", none), List.mem_cons_of_mem _ (List.mem_cons_of_mem _ List.mem_cons_self), rfl⟩)
  refine mk_fnT ["_law_script", "_law_hand_here", "_law_turn", "_law_sizes", "_law_places", "_law_boxes", "_law_lines", "_law_stroke", "_law_goals", "_law_box", "_law_text"] ["_law_script"] F sc (fun vs H Q E h => ?_) (fun A outer s H vs Q E hr h => ⟨_,
      pss_cons (ps_set (i := 1) sc.nd rfl (Or.inr rfl) (pe_0 (ok_law_hand T) hr (by decide) rfl (pa_cons (pv 0) pa_nil)))
      (pss_cons (ps_for PassesOwn.never rfl (pi_range1 rfl T.f_range (pa_cons pe_int pa_nil)) (pg_name (i := 2) sc.nd rfl (Or.inl rfl))
        (pss_cons (ps_asg (pe_0 (ok_law_parts T) hr (by decide) rfl (pa_cons (pv 1) (pa_cons pe_int (pa_cons pe_int (pa_cons pe_int pa_nil))))) (pg_tup rfl (pgs_cons (pg_name (i := 3) sc.nd rfl (Or.inl rfl)) (pgs_cons (pg_name (i := 4) sc.nd rfl (Or.inl rfl)) pgs_nil))))
        (pss_cons (ps_if (pt_not (pt_val (pe_0 (ok_law_picture_right T TB) hr (by decide) rfl (pa_cons (pe_0 (ok_law_bent_text T) hr (by decide) rfl (pa_cons (pv 1) (pa_cons (pe_0 (ok_law_picture_lines T) hr (by decide) rfl (pa_cons (pv 3) (pa_cons (pv 4) pa_nil))) pa_nil))) pa_nil)))) (pss_one (ps_ret pe_bl)) pss_nil)
        (pss_cons (ps_asg (pe_tup (pa_cons (pe_make T.mkB FB (hr.mono (by decide)) rfl T.g_Boxes BB .nil (E := E0) passL (pa_cons (pv 3) pa_nil)) (pa_cons (pe_lst pa_nil) pa_nil))) (pg_tup rfl (pgs_cons (pg_name (i := 5) sc.nd rfl (Or.inr rfl)) (pgs_cons (pg_name (i := 6) sc.nd rfl (Or.inl rfl)) pgs_nil))))
        (pss_cons (ps_for PassesOwn.never rfl (pi_range1 rfl T.f_range (pa_cons (pe_0 (ok_law_draw T) hr (by decide) rfl (pa_cons (pv 1) (pa_cons pe_int pa_nil))) pa_nil)) (pg_name (i := 7) sc.nd rfl (Or.inl rfl))
          (pss_cons (ps_setLc (i := 8) (own := [("_law_box", 9)]) (g := gName 9) (tt := tYes) rfl sc.nd rfl rfl (sw_true rfl rfl rfl (by decide +kernel)) (pi_tup (pv 3)) (blkOk_by (own := [("_law_box", 9)]) (N := ["_law_script", "_law_hand_here", "_law_turn", "_law_sizes", "_law_places", "_law_boxes", "_law_lines", "_law_stroke", "_law_goals", "_law_box", "_law_text"]) (sc := defScope (top 64)) (by decide +kernel))
            (fun _ _ _ _ _ => pg_name (i := 9) sc.nd rfl (Or.inl rfl)) (fun _ _ _ _ _ => pts_nil)
            (fun _ _ _ _ _ => pe_callTy call_str_int rfl T.f_str (by decide +kernel) (pa_cons (pe_0 (ok_law_any T) hr (by decide) rfl (pa_cons (pv 1) (pa_cons (pe_lst (pa_cons pe_int (pa_cons pe_int (pa_cons (pe_un un_neg pe_int) (pa_cons pe_int pa_nil))))) pa_nil))) pa_nil)))
          (pss_one (ps_expr (pe_bm PySem.F.plainAttrs_list PySem.F.slot_list_append PySem.F.type_list_append mt_append (pv 6) (pa_cons (pe_op op_add_str (pe_0 (ok_law_any T) hr (by decide) rfl (pa_cons (pv 1) (pa_cons (pe_lst (pa_cons pe_str (pa_cons pe_str pa_nil))) pa_nil))) (pe_join pe_str (pv 8))) pa_nil))))))
        (pss_cons (ps_set (i := 10) sc.nd rfl (Or.inr rfl) (pe_0 (ok_law_bent_text T) hr (by decide) rfl (pa_cons (pv 1) (pa_cons (pv 6) pa_nil))))
        (pss_one (ps_if (pt_cmpR (op_neD hr.units)
          (LamX.pe_lamcall (T := tabsK K) (TT := TTold K) (k := 7) rfl T.g__law_told kpT lkT hcT bT sg rfl (Or.inl rfl) (told_gives T) tb rfl (tabs_in3 K) (tabs_u3 T) (hr.mono (by decide)) (LamX.lamS_by (sc := defScope (top 64)) (by decide +kernel)) rfl (fun _ _ _ _ _ => rfl)
            (fun A outer s H E f c' hr2 => pe_x (ok_read_script T) hr2 (by decide) (E := E) (passes_call (takes_of rfl rfl rfl rfl) fun _ _ _ _ z => z) rfl (pa_cons (pv 5) (pa_cons (pv 10) pa_nil))))
          (pe_0 (ok_law_due_script T) hr (by decide) rfl (pa_cons (pv 10) (pa_cons (pe_fld (pv 5) rfl) pa_nil))) (nomark _)) (pss_one (ps_ret pe_bl)) pss_nil))))))))
      (pss_one (ps_ret (pe_and (pe_0 (ok_law_picture_right T TB) hr (by decide) rfl (pa_cons pe_str pa_nil)) (pe_one (pe_0 (ok_law_far_right T TB) hr (by decide) rfl (pa_cons (pv 1) (pa_cons (pv 5) pa_nil)))))))), ?_⟩)
  · obtain ⟨a, ns, rfl, _⟩ := h; rfl
  · obtain ⟨a, ns, rfl, hS, hz, ht, q⟩ := h
    refine ⟨_, rfl, a, ns, rfl, hS, hz, fun H1 h S1 hn hh => ?_⟩
    have L1 := LStep.refl hh (ht.ext S1)
    refine ⟨_, rfl, by decide, by decide, for_range (lo := 0) (n := (4 : Int).toNat) (fun i σ H' => ∃ o2 o3 o4 o5 o6 o7 o8 o9 o10, σ = [some (.ref a), some (.ref h), o2, o3, o4, o5, o6, o7, o8, o9, o10] ∧ LStep K h H1 H' ∧
      (0 < i → ∃ x ss, o5 = some (.ref x) ∧ BoxAt K (del H' h) x ss ∧ 1 ≤ ss.length ∧ ss.length ≤ 40)) ?_ ?_ ?_⟩
    · exact ⟨none, none, none, none, none, none, none, none, none, rfl, L1, fun z => absurd z (by decide)⟩
    · rintro i σ H2 hi ⟨o2, o3, o4, o5, o6, o7, o8, o9, o10, rfl, L2', _⟩
      refine ⟨_, rfl, h, rfl, L2'.1, fun H3 t sv pv' ss ps T3 hst hs hp hl h1 h5 bs bp => ⟨t, _, rfl, sqT_ext (same_extN (del_sub _ h)) hst, rfl, _, _, rfl, _, _, rfl, rfl, ?_⟩⟩
      have L3 := L2'.step T3
      have E3 := del_sub H3 h
      refine ⟨_, rfl, _, rfl, _, rfl, sv, pv', ss, ps, rfl, dp_ext E3 hs, dp_ext E3 hp, hl, h5, bs, bp, fun H4 l ls S4 hl4 hls4 htot => ?_⟩
      have L4 := L3.same S4
      refine ⟨h, l, ls, rfl, L4.1, SqL.of (by rw [del_ne (strs_hand L4.1 hls4)]; exact hls4), by omega, fun H5 z T5 hz5 => ?_⟩
      have L5 := L4.step T5
      refine ⟨z, rfl, by omega, L5.3, fun H6 X6 t6 => ⟨_, rfl, iteF ?_⟩⟩
      have L6 := L5.ext X6 t6
      -- the sizes since H3
      have e36 : LamX.ExtN (del H3 h) (del H6 h) := (same_extN ((same_del h S4).trans T5.2)).trans (extN_del h X6)
      have hs6 : Dp K (del H6 h) sv (encPs ss) := dp_extN e36 _ _ hs
      obtain ⟨sa, xs, rfl, hsa, hxs⟩ := dp_tup hs6
      have hxl : xs.length = ss.length := by rw [dpAll_len hxs, List.length_map]
      refine ⟨_, rfl, ?_⟩
      intro x dx hx hdx hxd
      have S7 : Same H6 (upd (upd H6 dx (.own x)) x (.ins (cBx K) dx [])) := (same_upd hdx).trans (same_upd (by rw [upd_ne (Ne.symm hxd)]; exact hx))
      have hbad : badPart ss = none := bad_none h1 (by omega) fun j s' _ hs' => small_ok (bs s' (List.mem_of_getElem? hs'))
      refine ⟨x, dx, .ref sa, ss, rfl, upd_same, dp_ext (same_to_del S7 hx) (dp_ext (del_sub _ _) hs6), by omega, fun _ H7 S8 hx7 => ⟨rfl, ?_⟩, fun p hp => by rw [hbad] at hp; cases hp⟩
      have S67 : Same H6 H7 := (same_to_del S7 hx).trans (S8.trans (del_sub _ _))
      have L7 := L6.same S67
      have hxh : x ≠ h := fun z => by
        obtain ⟨c, i, b, s, k, ns, y⟩ := L7.1
        have := y.at_
        rw [← z, hx7] at this
        cases this
      have hB7 : BoxAt K (del H7 h) x ss := ⟨dx, .ref sa, by rw [del_ne hxh]; exact hx7, dp_ext (same_del h S67) hs6⟩
      have hsa7 : SqT K (del H7 h) sa xs := sqT_ext (same_extN (same_del h S67)) hsa
      refine ⟨Nat.zero_le _, fun lp hlp => ⟨(by show 2 ≤ sizeLine; decide), fun t6 ht6 => ⟨t6, _, rfl, SqT.of upd_same, rfl, _, _, rfl, _, _, rfl, rfl, ?_⟩⟩⟩
      have hlph : lp ≠ h := Ne.symm (by obtain ⟨o, ho⟩ := hand_here L7.1; exact ne_of_none ho hlp)
      have R8 := (same_upd (o := .lst []) hlp).trans (same_upd (o := .tup [.ref x, .ref lp]) ht6)
      have hlp8 : (upd (upd H7 lp (.lst [])) t6 (.tup [.ref x, .ref lp])) lp = some (.lst (([] : List Str).map V.str)) := same_upd ht6 _ _ upd_same
      have X8 := Step.same L7.1 R8
      generalize upd (upd H7 lp (.lst [])) t6 (.tup [.ref x, .ref lp]) = H8 at *
      refine ⟨_, rfl, h, 5, rfl, X8.1, by decide, by decide, fun H9 n T9 n0 n5 => ⟨_, rfl, by omega, by omega, for_range (lo := 0) (n := n.toNat) (fun k σ H' => ∃ o7 o8 o9, σ = [some (.ref a), some (.ref h), some (.int (0 + (i : Int))), some (.ref sa), some pv', some (.ref x), some (.ref lp), o7, o8, o9, o10] ∧ Step K h H7 H' ∧
        ∃ ls : List Str, H' lp = some (.lst (ls.map V.str)) ∧ tot ls ≤ 80 * k) ?_ ?_ ?_⟩⟩
      · exact ⟨_, _, _, rfl, X8.trans T9, [], strs_step X8.1 T9 hlp8, by simp [tot_nil]⟩
      · rintro k σ H10 hk ⟨p7, p8, p9, rfl, T10, ls, hls, htl⟩
        have hln := tot_len ls
        have hsa10 : SqT K H10 sa xs := sqT_ext (same_extN (T10.2.trans (del_sub _ _))) hsa7
        refine ⟨_, rfl, sa, rfl, ⟨_, hsa10⟩, fun D hD => lc_hand (K := K) (h := h) (walk_tup (K := K) (a := sa) (xs := xs)) T10.1 (le_line (by omega)) hD (fun H11 T11 => sqT_ext (same_extN (((T10.trans T11).2).trans (del_sub _ _))) hsa7) yAt_same (fun j y H11 H12 Qc T12 hY hQ => ?_) (fun H11 ys T11 hD11 hyl hyb => ?_)⟩
        · obtain ⟨rfl, hy⟩ := hY
          refine ⟨rfl, _, rfl, _, rfl, (by show 4 ≤ sizeLine; decide), fun p4 hp4 => ?_⟩
          have n4 : p4 ≠ h := Ne.symm (by obtain ⟨o, ho⟩ := hand_here T12.1; exact ne_of_none ho hp4)
          have X4 := Step.same T12.1 (same_upd (o := .lst [.int 0, .int 3, .int (-12), .int 999999999]) hp4)
          refine ⟨h, p4, _, rfl, X4.1, SqL.of (by rw [del_ne n4]; exact upd_same), (by show 0 < 4; decide), (by show 4 ≤ 1000000; decide), fun H13 v T13 hv => ?_⟩
          have hint : ∃ n : Int, v = .int n ∧ n.natAbs < 1000000000 ∧ n.natAbs.log2 < 1920 := by
            simp only [List.mem_cons, List.not_mem_nil, or_false] at hv
            rcases hv with rfl | rfl | rfl | rfl
            · exact ⟨_, rfl, by decide +kernel, by decide +kernel⟩
            · exact ⟨_, rfl, by decide +kernel, by decide +kernel⟩
            · exact ⟨_, rfl, by decide +kernel, by decide +kernel⟩
            · exact ⟨_, rfl, by decide +kernel, by decide +kernel⟩
          obtain ⟨n, rfl, hn, hn2⟩ := hint
          exact ⟨n, rfl, hn2, hQ _ _ (X4.trans T13) (strOf_len hn)⟩
        · have hlp11 := strs_step T10.1 T11 hls
          have T011 := T10.trans T11
          refine ⟨_, rfl, .inl ⟨rfl, _, .inl (.inl hlp11)⟩, _, rfl, gsh_lst (fun _ => rfl) (by decide +kernel) rfl (by decide) _ fun v7 H12 S12 r7 => ?_⟩
          have X12 := Step.same T11.1 S12
          obtain ⟨a7, xs7, rfl, f7, l7, s7⟩ := sl_hand X12.1 r7
          refine ⟨h, a7, xs7, rfl, X12.1, f7, by rw [l7]; decide, by rw [l7]; decide, fun H13 v T13 hv => ?_⟩
          obtain ⟨wd, rfl, hwd⟩ := short_of s7 hv
          have X13 := X12.trans T13
          have hD13 := strs_step T11.1 X13 hD11
          have hlp13 := strs_step T11.1 X13 hlp11
          have htg := tot_all hyb
          have hjs := join_sp ys
          have hsum := tot_sum ys
          have e1 : ((" " : Str)).length = 1 := by decide +kernel
          refine ⟨⟨_, rfl⟩, _, rfl, " ", D, ys, rfl, rfl, .inl (SqL.of hD13), by rw [e1]; omega, _, _, rfl, rfl, le_line ?_, lp, _, _, rfl, rfl, hlp13, ?_, ?_⟩
          · show wd.length + (Txt.join sSp ys).length ≤ _
            omega
          · rw [List.length_map, sizeLine_eq]; omega
          · refine ⟨_, _, _, rfl, step_put2 L7.1 (T011.trans X13) hlp hlph, ls ++ [wd ++ Txt.join sSp ys], by rw [List.map_append]; exact upd_same, ?_⟩
            rw [tot_app, tot_cons, tot_nil, len_app]
            omega
      · rintro σ H10 ⟨p7, p8, p9, rfl, T10, ls, hls, htl⟩
        have L10 := L7.step T10
        refine ⟨_, rfl, _, rfl, h, lp, ls, rfl, T10.1, SqL.of (by rw [del_ne hlph]; exact hls), by omega, fun H11 text T11 hlt => ?_⟩
        have L11 := L10.step T11
        have hl : text.length ≤ 900000 := by omega
        have hB11 : BoxAt K (del H11 h) x ss := boxAt_ext (same_extN (T10.2.trans T11.2)) hB7
        have hx11 := boxAt_ext (same_extN (del_sub _ _)) hB11
        refine ⟨L11.3, fun H12 X12 T12 H13 S13 Kn hk => ⟨_, rfl, _, rfl, x, ss, _, rfl, boxAt_ext (X12.trans (same_extN S13)) hx11, .inr ⟨text, rfl, hl, told_scr (fun H14 t2 S14 tt => ?_) hk⟩⟩⟩
        have L14 := (L11.ext X12 T12).same (S13.trans S14)
        have hB14 : BoxAt K (del H14 h) x ss := boxAt_ext ((extN_del h X12).trans (same_extN (same_del h (S13.trans S14)))) hB11
        obtain ⟨dx2, sv2, hx14, hsv2⟩ := boxAt_ext (same_extN (del_sub _ _)) hB14
        refine ⟨_, rfl, _, rfl, x, _, _, _, _, rfl, hx14, T.cls, T.no_many, lk_m, text, ss.length, rfl, hl, fun H15 t3 S15 dd => ?_⟩
        have nc := nice_scr (m := ss.length) hl
        refine ⟨_, _, dp_ext S15 (toldS_dp tt), dueS_dp dd, nc.shaped (by decide), nc.shaped (by decide), _, rfl, ?_⟩
        rw [nc.refl]
        exact iteF ⟨_, _, _, _, _, _, _, _, _, rfl, L14.same S15, fun _ => ⟨x, ss, rfl, boxAt_ext (same_extN (same_del h S15)) hB14, h1, by omega⟩⟩
    · rintro σ H2 ⟨o2, o3, o4, o5, o6, o7, o8, o9, o10, rfl, L2', hb⟩
      obtain ⟨x, ss, rfl, hB, h1, h40⟩ := hb (by decide)
      refine ⟨("" : Str), rfl, by decide +kernel, L2'.3, fun H3 X3 t3 => ⟨_, rfl, iteT ?_⟩⟩
      have L3 := L2'.ext X3 t3
      exact ⟨_, rfl, _, rfl, h, x, ss, rfl, L3.1, boxAt_ext (extN_del h X3) hB, h1, h40, t3, q⟩
end
end K45

namespace K45
open PySem PySem.Spec PyProof.Rows L2
theorem law_at {l : PySem.W.OpenLaw} {w : World} {K : PySem.W.Frag} {h : Heap} {mg : Str → Option Value} {fa0 : Addr} (X : K.In h) (G : h.Ns mainGlobals mg) (hfa : mg ("law" : Str) = some (.ref fa0)) (c : He.SaysX fa fn [] tf moreB w h K) :
    LamX.LawAtS l w K L2.CX0 12 63 "_law_script" mg fa0 h := by
  have T : Txt K mg := ⟨⟨h, X, G⟩, c.t.d, c.more⟩
  obtain ⟨fd, F⟩ := T.d_law
  have e := hfa.symm.trans T.g_law
  cases e
  have b := FunD.bindsA (ps := ["_law_script"]) F fun _ _ _ _ _ _ us hl => match us, hl with | [_], _ => rfl
  refine ⟨fd, tf.map (He.cT K), spLaw K, fun p hp => ?_, fun p hp => ?_, fun p hp => ?_, fun s v => b s [v] rfl, fun H a ns hl _ hT hS => ⟨a, ns, rfl, hS, by omega, ?_, fun _ => rfl⟩, fun base _ _ TB => ok_law T TB F⟩
  · obtain ⟨q, hq, rfl⟩ := List.mem_map.mp hp
    exact c.empty q hq
  · obtain ⟨q, hq, rfl⟩ := List.mem_map.mp hp
    exact c.out q hq
  · obtain ⟨q, hq, rfl⟩ := List.mem_map.mp hp
    exact PySem.W.codeHd_of_K X (c.hd q hq)
  · intro p hp
    rcases List.mem_cons.mp hp with z | hp
    · rw [z]
      exact LamX.TabS.nil (hT _ (List.mem_map.mpr ⟨("_law_picture_right", none), List.mem_cons_self, rfl⟩))
    · rcases List.mem_cons.mp hp with z | hp
      · rw [z]
        exact LamX.TabS.nil (hT _ (List.mem_map.mpr ⟨("_law_far_right", none), List.mem_cons_of_mem _ List.mem_cons_self, rfl⟩))
      · rw [List.mem_singleton.mp hp]
        exact LamX.TabS.nil (hT _ (List.mem_map.mpr ⟨("law", none), List.mem_cons_of_mem _ (List.mem_cons_of_mem _ List.mem_cons_self), rfl⟩))
end K45
open PySem PySem.W PySem.Calls PyProof.Rows
theorem PySem.Challenge.cw_fourstrokes_k45_whole_pictures_and_scrip_holds : PySem.Challenge.rw_fourstrokes_k45_whole_pictures_and_scrip.Holds := by
  w_on; o_law
  refine HandSHeadRun.head_any (r := OpenLaw.row PySem.Challenge.rw_fourstrokes_k45_whole_pictures_and_scrip) (q := view (OpenLaw.row PySem.Challenge.rw_fourstrokes_k45_whole_pictures_and_scrip).prog [64]) (H := K45.hk) (ob := K45.ob) (M := 4000) (loose := K45.nm1 ++ K45.nm2) (d := HandSHeadRun.topDef (OpenLaw.row PySem.Challenge.rw_fourstrokes_k45_whole_pictures_and_scrip).prog 64) (kwd := []) K45.ob_eq
    (by kernel_rfl) (fun s => by kernel_rfl) K45.run (by kernel_rfl) (by kernel_rfl) (by kernel_rfl) (by rfl) (by first | assumption | decide +kernel) (by decide +kernel) ⟨rfl, rfl, rfl, rfl, rfl, by decide +kernel⟩ ?hw ?hc
  case hw => w_witness2
  case hc =>
    refine LamX.walk_ofTsE (l := PySem.Challenge.rw_fourstrokes_k45_whole_pictures_and_scrip) (n := 63) (k := 12) (x := "_law_script") (CX := fun _ => L2.CX0) rfl (by decide) (by kernel_rfl) ⟨rfl, by decide, by decide⟩ ?F (fun _ _ _ _ _ z => z)
    intro w mg fa h Y G hmg0
    obtain ⟨K, KX, c⟩ := Y
    have hmg : mg ("law" : PySem.Str) = some (.ref fa) := by
      have e : (HandSHeadRun.topDef (OpenLaw.row PySem.Challenge.rw_fourstrokes_k45_whole_pictures_and_scrip).prog 64).name = ("law" : PySem.Str) := by kernel_rfl
      rw [← e]
      exact hmg0
    exact ⟨K, KX, K45.law_at KX G hmg c⟩
