import PyProof.Rows.All
import Wide.All
import OpenK.AllK
import Wide.FinOn
import KE.KStateDown
import HandS.ForMost
import HandS.More
import HandS.Conv
import HandS.Exc
import HandS.Defaults
import HandS.Wide
import HandS.IsInst
import HandS.SetKeys
import HandS.Sort
import HandS.SortOrd
import HandS.SortRule
import HandS.TupLe
import HandS.Head0
import HandS.Head1
import HandS.Head2
import HandS.HeadEnd
import HandS.HeadHook1
import HandS.HeadHook2
import PySem.Challenge.RW_stayprice_k97_whole_dearer_by_as_much
set_option Elab.async false
set_option linter.all false
set_option maxRecDepth 100000
set_option maxHeartbeats 0
/-! ### the text by places -/
namespace Stp
open PySem PySem.Spec PyProof.Rows L2
def top (i : Nat) : Stmt := PySem.Challenge.pw_stayprice_k97_whole_dearer_by_as_much.main.body.getD i (.Pass ⟨0, 0, 0, 0⟩)

abbrev sIsWhole : Stmt := top 3
abbrev sIsDay : Stmt := top 4
abbrev sIsTwoDays : Stmt := top 5
abbrev sIsStretch : Stmt := top 6
abbrev sIsStay : Stmt := top 7
abbrev sNightsOf : Stmt := top 8
abbrev sMarked : Stmt := top 16
abbrev sBill : Stmt := top 17
abbrev sCanBeHad : Stmt := top 20
abbrev sCoinsOf : Stmt := top 21
abbrev sCost : Stmt := top 22
abbrev sPartsFrom : Stmt := top 24
abbrev sWays : Stmt := top 25
abbrev sCutBy : Stmt := top 26
abbrev sPaperBy : Stmt := top 27
abbrev sBest : Stmt := top 28
abbrev sIsCoins : Stmt := top 32
abbrev sIsNights : Stmt := top 33
abbrev sMade : Stmt := top 42
abbrev sRuleOf : Stmt := top 43
abbrev sUsual : Stmt := top 44
abbrev sIsPart : Stmt := top 49
abbrev sIsCut : Stmt := top 50
abbrev sPricedParts : Stmt := top 51
abbrev sCostOf : Stmt := top 52
abbrev sIsPaper : Stmt := top 53
abbrev sIsShut : Stmt := top 54
abbrev sLetsBy : Stmt := top 55
abbrev sLawTape : Stmt := top 57
abbrev sLawDraw : Stmt := top 58
abbrev sLawCoins : Stmt := top 59
abbrev sLawWorth : Stmt := top 60
abbrev sLawPriceRules : Stmt := top 61
abbrev sLawOtherRules : Stmt := top 62
abbrev sLawRules : Stmt := top 63
abbrev sLawStay : Stmt := top 64
abbrev sLawBooks : Stmt := top 65
abbrev sLawChanged : Stmt := top 66
abbrev sLawBooksOf : Stmt := top 67
abbrev sLaw : Stmt := top 68
abbrev cRule_init : Stmt := inClass (top 34) 0
abbrev cRule_word : Stmt := inClass (top 34) 1
abbrev cRule_fits : Stmt := inClass (top 34) 2
abbrev cRule_tells : Stmt := inClass (top 34) 3
abbrev cRule_told : Stmt := inClass (top 34) 4
abbrev cPrice_word : Stmt := inClass (top 35) 0
abbrev cPrice_fits : Stmt := inClass (top 35) 1
abbrev cCome_word : Stmt := inClass (top 36) 0
abbrev cCome_fits : Stmt := inClass (top 36) 1
abbrev cGo_word : Stmt := inClass (top 37) 0
abbrev cGo_fits : Stmt := inClass (top 37) 1
abbrev cLeast_word : Stmt := inClass (top 38) 0
abbrev cLeast_fits : Stmt := inClass (top 38) 1
abbrev cMost_word : Stmt := inClass (top 39) 0
abbrev cMost_fits : Stmt := inClass (top 39) 1
abbrev cDeal_word : Stmt := inClass (top 40) 0
abbrev cDeal_fits : Stmt := inClass (top 40) 1
abbrev cFee_word : Stmt := inClass (top 41) 0
abbrev cFee_fits : Stmt := inClass (top 41) 1
abbrev cBook_init : Stmt := inClass (top 47) 0
abbrev cBook_rules : Stmt := inClass (top 47) 1
abbrev cBook_tells_of : Stmt := inClass (top 47) 2

/-! ### calls by promises -/
def tEx {ι : Type} (tt : ι → TE) : TE := fun σ H Q => ∃ i, tt i σ H Q
def Has (P : Program) (w : World) (K : PySem.W.Frag) (mg : Str → Option Value) (base : Heap) (x : Str) (k : Nat) (ps : List Str) (sp : Sp) : Prop :=
  ∃ (f : Addr) (fd : FuncData), FnOk P w K mg base CX0 k f fd ps sp ∧ Binds K fd ps [] ∧ PySem.W.keepIn K (.ref f) = true ∧ mg x = some (.ref f)
def HasM (P : Program) (w : World) (K : PySem.W.Frag) (mg : Str → Option Value) (base : Heap) (C : Addr) (m : Str) (k : Nat) (ps : List Str) (sp : Sp) : Prop :=
  Cls K C ∧ ∃ (f : Addr) (fd : FuncData), Meth K C m f ∧ FnOk P w K mg base CX0 k f fd ps sp ∧ Binds K fd ps []
def HasC (P : Program) (w : World) (K : PySem.W.Frag) (mg : Str → Option Value) (base : Heap) (x : Str) (C : Addr) (k : Nat) (ps : List Str) (sp : Sp) : Prop :=
  ∃ (f : Addr) (fd : FuncData), Mk K C f ∧ FnOk P w K mg base CX0 k f fd ps sp ∧ Binds K fd ps [] ∧ mg x = some (.ref C)
section
variable {X : Cx} {x m : Str} {k : Nat} {ps : List Str} {sp : Sp} {e o : Expr} {es : List Expr} {t : TA} {ta : TE} {p pos apos : Pos} {C : Addr}
theorem pcall (g : Has X.prog X.w X.K X.mg X.base x k ps sp) (hr : Room k X.A) (hg : Gl X x) (ha : PA X (e :: es) t) (hdb : (x == ("__debug__" : Str)) = false := by decide)
    (he : starEach (e :: es) X.env = (false, eval e X.env) :: starEach es X.env := by rfl) (hpl : (backTo pos (starEach es X.env)).any (·.1) = false := by rfl) :
    PE X (.Call (.Name x p) (e :: es) [] pos) (tCall sp [] E0 t) := by
  obtain ⟨f, fd, F, b, kp, hm⟩ := g
  exact pe_call F hr hg hm kp b .nil pass0 ha hdb he hpl
theorem pmeth {pl : Sem Bool} (he : PE X o ta) (g : HasM X.prog X.w X.K X.mg X.base C m k ps sp) (hr : Room k X.A) (ha : PA X (e :: es) t)
    (hst : starEach (e :: es) X.env = (false, eval e X.env) :: starEach es X.env := by rfl) (hpl : (backTo pos (starEach es X.env)).any (·.1) = false := by rfl)
    (ht : eval (.Call (.Attribute o m apos) (e :: es) [] pos) X.env = (do
      let ov ← eval o X.env
      standAt apos.atName
      let (f, first) ← holding [ov] (getMethod ov m pl)
      callWith pos f first (backTo pos (starEach (e :: es) X.env)) (backToKw pos (keywordEach [] X.env))) := by rfl) :
    PE X (.Call (.Attribute o m apos) (e :: es) [] pos) (tMeth C m sp [] E0 ta t) := by
  obtain ⟨c, f, fd, hm, F, b⟩ := g
  exact pe_meth he c hm F hr b .nil pass0 ha hst hpl ht
theorem pmeth0 {pl : Sem Bool} (he : PE X o ta) (g : HasM X.prog X.w X.K X.mg X.base C m k ps sp) (hr : Room k X.A)
    (ht : eval (.Call (.Attribute o m apos) [] [] pos) X.env = (do
      let ov ← eval o X.env
      standAt apos.atName
      let (f, first) ← holding [ov] (getMethod ov m pl)
      callWith pos f first (backTo pos (starEach [] X.env)) (backToKw pos (keywordEach [] X.env))) := by rfl) :
    PE X (.Call (.Attribute o m apos) [] [] pos) (tMeth C m sp [] E0 ta tNil) := by
  obtain ⟨c, f, fd, hm, F, b⟩ := g
  exact pe_meth0 he c hm F hr b .nil pass0 ht
theorem pmake (g : HasC X.prog X.w X.K X.mg X.base x C k ps sp) (hr : Room (k + 1) X.A) (hg : Gl X x) (ha : PA X (e :: es) t) (hdb : (x == ("__debug__" : Str)) = false := by decide)
    (he : starEach (e :: es) X.env = (false, eval e X.env) :: starEach es X.env := by rfl) (hpl : (backTo pos (starEach es X.env)).any (·.1) = false := by rfl) :
    PE X (.Call (.Name x p) (e :: es) [] pos) (tMake C sp [] E0 t) := by
  obtain ⟨f, fd, M, F, b, hm⟩ := g
  exact pe_make M F hr hg hm b .nil pass0 ha hdb he hpl
/-- a module's int -/
theorem pe_gint {i : Int} (hg : Gl X x) (h : ∃ t, X.mg x = some (.int i t)) (hd : (x == ("__debug__" : Str)) = false := by decide) : PE X (.Name x pos) (tC (.int i)) := by
  obtain ⟨t, h⟩ := h
  exact pe_glob hg h ⟨t, rfl⟩ hd
def rLenS (K : PySem.W.Frag) : List V → Hp → VK → Prop := fun xs H Q => ∃ p ys, xs = [.ref p] ∧ (SqL K H p ys ∨ SqT K H p ys) ∧ Q (.int ys.length) H
theorem clen : CallR X (.builtin "len") (rLenS X.K) := call_len_seq
/-- the reading chooses -/
theorem pe_ex {ι : Type} {tt : ι → TE} (h : ∀ i, PE X e (tt i)) : PE X e (tEx tt) := ⟨fun pins s σ H Q I ⟨i, q⟩ => (h i).run pins s σ H Q I q⟩
/-- a op b op c op d, as a test -/
def tChain4 (r r' r'' : R2) (ta tb tc td : TE) : TT := fun σ H Q => ta σ H fun x H1 => tb σ H1 fun y H2 => r x y H2 fun z H3 => ∃ k, z = .bl k ∧
  (if k = true then tc σ H3 fun y' H4 => r' y y' H4 fun z' H5 => ∃ k', z' = .bl k' ∧ (if k' = true then td σ H5 fun y'' H6 => r'' y' y'' H6 fun z'' H7 => ∃ k'', z'' = .bl k'' ∧ Q k'' H7 else Q false H5) else Q false H3)
theorem pt_chain3 {a b c d : Expr} {tb tc td : TE} {op op' op'' : CmpOp} {r r' r'' : R2} (ho : OpR X (compareOp op) r) (ho' : OpR X (compareOp op') r') (ho'' : OpR X (compareOp op'') r'') (ha : PE X a ta) (hb : PE X b tb) (hc : PE X c tc) (hd : PE X d td)
    (hm : lastMarks [op, op', op''] [b, c, d] = false := by with_unfolding_all rfl) : PT X (.Compare a [op, op', op''] [b, c, d] pos) (tChain4 r r' r'' ta tb tc td) := by
  refine ⟨fun pins s σ H Q I h => ?_⟩
  refine isTrue_chain (thn (ha.run pins s σ H _ I h) fun v s1 ⟨x, H1, I1, r1, q1⟩ => test_link (thn (hb.run pins s1 σ H1 _ I1 q1) fun u s2 ⟨y, H2, I2, r2, q2⟩ =>
    thn (ho pins s2 σ H2 x y v u _ I2 r1 r2 q2) fun d s3 ⟨z, H3, I3, r3, k, e, q3⟩ => ?_)) hm
  subst e
  cases r3
  refine wpAny_truthy_bool ?_
  cases k with
  | false => exact ite_ff ⟨H3, I3, q3⟩
  | true =>
    refine ite_tt (test_link (thn (hc.run pins s3 σ H3 _ I3 q3) fun u' s4 ⟨y', H4, I4, r4, q4⟩ => thn (ho' pins s4 σ H4 y y' u u' _ I4 r2 r4 q4) fun d' s5 ⟨z', H5, I5, r5, k', e', q5⟩ => ?_))
    subst e'
    cases r5
    refine wpAny_truthy_bool ?_
    cases k' with
    | false => exact ite_ff ⟨H5, I5, q5⟩
    | true =>
      refine ite_tt (test_last (thn (hd.run pins s5 σ H5 _ I5 q5) fun w' s6 ⟨y'', H6, I6, r6, q6⟩ => thn (ho'' pins s6 σ H6 y' y'' u' w' _ I6 r4 r6 q6) fun d'' s7 ⟨z'', H7, I7, r7, k'', e'', q7⟩ => ?_))
      subst e''
      cases r7
      exact wpAny_truthy_bool ⟨H7, I7, q7⟩
end
/-! ### what the top has left -/
/-- a def at a global's name -/
structure Gd (K : PySem.W.Frag) (mg : Str → Option Value) (x : Str) (st : Stmt) : Prop where
  g : mg x = some (.ref (He.ga K x))
  d : ∃ fd, FunD K x x (defArgs st) (defBody st) (defScope st) [] [] (He.ga K x) fd
/-- a class -/
structure Kl (K : PySem.W.Frag) (mg : Str → Option Value) (x : Str) : Prop where
  g : mg x = some (.ref (He.ga K x))
  c : Cls K (He.ga K x)
  m : Mk K (He.ga K x) (He.ma K (He.ga K x) "__init__")
/-- a method of the class x; its def has the defaults dv -/
structure Md (K : PySem.W.Frag) (x m qual : Str) (st : Stmt) (dv : List V) : Prop where
  d : ∃ fd, FunD K m qual (defArgs st) (defBody st) (defScope st) dv [] (He.ma K (He.ga K x) m) fd
section
variable {P : Program} {w : World} {K : PySem.W.Frag} {mg : Str → Option Value} {base : Heap} {N ps : List Str} {k : Nat} {sp : Sp}
theorem nox_ok {x qual : Str} {st : Stmt} {dv : List V} {f : Addr} {fd : FuncData} (F : FunD K x qual (defArgs st) (defBody st) (defScope st) dv [] f fd) (S : FnScope N ps (defScope st)) (len : ∀ vs H Q E, sp vs H Q E → vs.length = ps.length)
    (hbody : ∀ (cdv : Value) (A : Around) (outer : List Env) (s : Shared) (H : Hp) (vs : List V) (Q : VK) (E : XK), Room k (A.deeper (envOfC qual (defScope st) s.heap.objs.size f cdv)) → sp vs H Q E →
      ∃ t, PSs (cxOf CX0 P w K mg base N qual (defScope st) f cdv A outer s H E).nox (defBody st) t ∧ t { nx := fun _ H' => Q .non H', rt := Q } (start N vs) H) : FnOk P w K mg base CX0 (k + 1) f fd ps sp :=
  F.ok S len fun cdv A outer s H vs Q E hr h => by
    obtain ⟨t, h1, h2⟩ := hbody cdv A outer s H vs Q E hr h
    exact ⟨t, h1.nox, h2⟩
theorem Gd.has {x : Str} {st : Stmt} (D : Gd K mg x st) (S : FnScope N ps (defScope st))
    (hb : ∀ (kV doc pm : Value) (an : Option Addr) (cdv ct : Value) (us : List Value), us.length = ps.length → bindArgs (PySem.W.fnOf x x (defArgs st) (defBody st) (defScope st) .none kV doc pm an cdv ct) ⟨us, []⟩ = pure (ps.zip us))
    (len : ∀ vs H Q E, sp vs H Q E → vs.length = ps.length)
    (hbody : ∀ (cdv : Value) (A : Around) (outer : List Env) (s : Shared) (H : Hp) (vs : List V) (Q : VK) (E : XK), Room k (A.deeper (envOfC x (defScope st) s.heap.objs.size (He.ga K x) cdv)) → sp vs H Q E →
      ∃ t, PSs (cxOf CX0 P w K mg base N x (defScope st) (He.ga K x) cdv A outer s H E).nox (defBody st) t ∧ t { nx := fun _ H' => Q .non H', rt := Q } (start N vs) H) : Has P w K mg base x (k + 1) ps sp := by
  obtain ⟨g, fd, F⟩ := D
  exact ⟨_, fd, nox_ok F S len hbody, F.bindsN hb, F.kp, g⟩
theorem Md.has {x m qual : Str} {st : Stmt} (D : Md K x m qual st []) (c : Cls K (He.ga K x)) (M : Meth K (He.ga K x) m (He.ma K (He.ga K x) m)) (S : FnScope N ps (defScope st))
    (hb : ∀ (kV doc pm : Value) (an : Option Addr) (cdv ct : Value) (us : List Value), us.length = ps.length → bindArgs (PySem.W.fnOf m qual (defArgs st) (defBody st) (defScope st) .none kV doc pm an cdv ct) ⟨us, []⟩ = pure (ps.zip us))
    (len : ∀ vs H Q E, sp vs H Q E → vs.length = ps.length)
    (hbody : ∀ (cdv : Value) (A : Around) (outer : List Env) (s : Shared) (H : Hp) (vs : List V) (Q : VK) (E : XK), Room k (A.deeper (envOfC qual (defScope st) s.heap.objs.size (He.ma K (He.ga K x) m) cdv)) → sp vs H Q E →
      ∃ t, PSs (cxOf CX0 P w K mg base N qual (defScope st) (He.ma K (He.ga K x) m) cdv A outer s H E).nox (defBody st) t ∧ t { nx := fun _ H' => Q .non H', rt := Q } (start N vs) H) : HasM P w K mg base (He.ga K x) m (k + 1) ps sp := by
  obtain ⟨fd, F⟩ := D
  exact ⟨c, _, fd, M, nox_ok F S len hbody, F.bindsN hb⟩
theorem Kl.has {x qual : Str} {st : Stmt} {dv : List V} (L : Kl K mg x) (D : Md K x "__init__" qual st dv) (S : FnScope N ps (defScope st))
    (hb : ∀ fd, FunD K "__init__" qual (defArgs st) (defBody st) (defScope st) dv [] (He.ma K (He.ga K x) "__init__") fd → Binds K fd ps [])
    (len : ∀ vs H Q E, sp vs H Q E → vs.length = ps.length)
    (hbody : ∀ (cdv : Value) (A : Around) (outer : List Env) (s : Shared) (H : Hp) (vs : List V) (Q : VK) (E : XK), Room k (A.deeper (envOfC qual (defScope st) s.heap.objs.size (He.ma K (He.ga K x) "__init__") cdv)) → sp vs H Q E →
      ∃ t, PSs (cxOf CX0 P w K mg base N qual (defScope st) (He.ma K (He.ga K x) "__init__") cdv A outer s H E).nox (defBody st) t ∧ t { nx := fun _ H' => Q .non H', rt := Q } (start N vs) H) : HasC P w K mg base x (He.ga K x) (k + 1) ps sp := by
  obtain ⟨fd, F⟩ := D
  exact ⟨_, fd, L.m, nox_ok F S len hbody, hb fd F, L.g⟩
end
/-! ### the words of the rules -/
inductive Wd where
  | price | come | go | least | most | deal | fee
  deriving DecidableEq
def Wd.s : Wd → Str
  | .price => "price" | .come => "come" | .go => "go" | .least => "least" | .most => "most" | .deal => "deal" | .fee => "fee"
def Wd.c : Wd → Str
  | .price => "Price" | .come => "Come" | .go => "Go" | .least => "Least" | .most => "Most" | .deal => "Deal" | .fee => "Fee"

structure Tx (K : PySem.W.Frag) (mg : Str → Option Value) : Prop where
  d_is_whole : Gd K mg "is_whole" sIsWhole
  d_is_day : Gd K mg "is_day" sIsDay
  d_is_two_days : Gd K mg "is_two_days" sIsTwoDays
  d_is_stretch : Gd K mg "is_stretch" sIsStretch
  d_is_stay : Gd K mg "is_stay" sIsStay
  d_nights_of : Gd K mg "nights_of" sNightsOf
  d_marked : Gd K mg "marked" sMarked
  d_bill : Gd K mg "bill" sBill
  d_can_be_had : Gd K mg "can_be_had" sCanBeHad
  d_coins_of : Gd K mg "coins_of" sCoinsOf
  d_cost : Gd K mg "cost" sCost
  d_parts_from : Gd K mg "parts_from" sPartsFrom
  d_ways : Gd K mg "ways" sWays
  d_cut_by : Gd K mg "cut_by" sCutBy
  d_paper_by : Gd K mg "paper_by" sPaperBy
  d_best : Gd K mg "best" sBest
  d_is_coins : Gd K mg "is_coins" sIsCoins
  d_is_nights : Gd K mg "is_nights" sIsNights
  d_made : Gd K mg "made" sMade
  d_rule_of : Gd K mg "rule_of" sRuleOf
  d_usual : Gd K mg "usual" sUsual
  d_is_part : Gd K mg "is_part" sIsPart
  d_is_cut : Gd K mg "is_cut" sIsCut
  d_priced_parts : Gd K mg "priced_parts" sPricedParts
  d_cost_of : Gd K mg "cost_of" sCostOf
  d_is_paper : Gd K mg "is_paper" sIsPaper
  d_is_shut : Gd K mg "is_shut" sIsShut
  d_lets_by : Gd K mg "lets_by" sLetsBy
  d_law_tape : Gd K mg "_law_tape" sLawTape
  d_law_draw : Gd K mg "_law_draw" sLawDraw
  d_law_coins : Gd K mg "_law_coins" sLawCoins
  d_law_worth : Gd K mg "_law_worth" sLawWorth
  d_law_price_rules : Gd K mg "_law_price_rules" sLawPriceRules
  d_law_other_rules : Gd K mg "_law_other_rules" sLawOtherRules
  d_law_rules : Gd K mg "_law_rules" sLawRules
  d_law_stay : Gd K mg "_law_stay" sLawStay
  d_law_books : Gd K mg "_law_books" sLawBooks
  d_law_changed : Gd K mg "_law_changed" sLawChanged
  d_law_books_of : Gd K mg "_law_books_of" sLawBooksOf
  d_law : Gd K mg "law" sLaw
  k_Price : Kl K mg "Price"
  k_Come : Kl K mg "Come"
  k_Go : Kl K mg "Go"
  k_Least : Kl K mg "Least"
  k_Most : Kl K mg "Most"
  k_Deal : Kl K mg "Deal"
  k_Fee : Kl K mg "Fee"
  k_Book : Kl K mg "Book"
  m_Price_init : Md K "Price" "__init__" "Rule.__init__" cRule_init []
  m_Price_word : Md K "Price" "word" "Price.word" cPrice_word []
  M_Price_word : Meth K (He.ga K "Price") "word" (He.ma K (He.ga K "Price") "word")
  m_Price_fits : Md K "Price" "fits" "Price.fits" cPrice_fits []
  M_Price_fits : Meth K (He.ga K "Price") "fits" (He.ma K (He.ga K "Price") "fits")
  m_Price_tells : Md K "Price" "tells" "Rule.tells" cRule_tells []
  M_Price_tells : Meth K (He.ga K "Price") "tells" (He.ma K (He.ga K "Price") "tells")
  m_Price_told : Md K "Price" "told" "Rule.told" cRule_told []
  M_Price_told : Meth K (He.ga K "Price") "told" (He.ma K (He.ga K "Price") "told")
  n_Price_first : NoAttr K (He.ga K "Price") "first"
  n_Price_last : NoAttr K (He.ga K "Price") "last"
  n_Price_worth : NoAttr K (He.ga K "Price") "worth"
  m_Come_init : Md K "Come" "__init__" "Rule.__init__" cRule_init []
  m_Come_word : Md K "Come" "word" "Come.word" cCome_word []
  M_Come_word : Meth K (He.ga K "Come") "word" (He.ma K (He.ga K "Come") "word")
  m_Come_fits : Md K "Come" "fits" "Come.fits" cCome_fits []
  M_Come_fits : Meth K (He.ga K "Come") "fits" (He.ma K (He.ga K "Come") "fits")
  m_Come_tells : Md K "Come" "tells" "Rule.tells" cRule_tells []
  M_Come_tells : Meth K (He.ga K "Come") "tells" (He.ma K (He.ga K "Come") "tells")
  m_Come_told : Md K "Come" "told" "Rule.told" cRule_told []
  M_Come_told : Meth K (He.ga K "Come") "told" (He.ma K (He.ga K "Come") "told")
  n_Come_first : NoAttr K (He.ga K "Come") "first"
  n_Come_last : NoAttr K (He.ga K "Come") "last"
  n_Come_worth : NoAttr K (He.ga K "Come") "worth"
  m_Go_init : Md K "Go" "__init__" "Rule.__init__" cRule_init []
  m_Go_word : Md K "Go" "word" "Go.word" cGo_word []
  M_Go_word : Meth K (He.ga K "Go") "word" (He.ma K (He.ga K "Go") "word")
  m_Go_fits : Md K "Go" "fits" "Go.fits" cGo_fits []
  M_Go_fits : Meth K (He.ga K "Go") "fits" (He.ma K (He.ga K "Go") "fits")
  m_Go_tells : Md K "Go" "tells" "Rule.tells" cRule_tells []
  M_Go_tells : Meth K (He.ga K "Go") "tells" (He.ma K (He.ga K "Go") "tells")
  m_Go_told : Md K "Go" "told" "Rule.told" cRule_told []
  M_Go_told : Meth K (He.ga K "Go") "told" (He.ma K (He.ga K "Go") "told")
  n_Go_first : NoAttr K (He.ga K "Go") "first"
  n_Go_last : NoAttr K (He.ga K "Go") "last"
  n_Go_worth : NoAttr K (He.ga K "Go") "worth"
  m_Least_init : Md K "Least" "__init__" "Rule.__init__" cRule_init []
  m_Least_word : Md K "Least" "word" "Least.word" cLeast_word []
  M_Least_word : Meth K (He.ga K "Least") "word" (He.ma K (He.ga K "Least") "word")
  m_Least_fits : Md K "Least" "fits" "Least.fits" cLeast_fits []
  M_Least_fits : Meth K (He.ga K "Least") "fits" (He.ma K (He.ga K "Least") "fits")
  m_Least_tells : Md K "Least" "tells" "Rule.tells" cRule_tells []
  M_Least_tells : Meth K (He.ga K "Least") "tells" (He.ma K (He.ga K "Least") "tells")
  m_Least_told : Md K "Least" "told" "Rule.told" cRule_told []
  M_Least_told : Meth K (He.ga K "Least") "told" (He.ma K (He.ga K "Least") "told")
  n_Least_first : NoAttr K (He.ga K "Least") "first"
  n_Least_last : NoAttr K (He.ga K "Least") "last"
  n_Least_worth : NoAttr K (He.ga K "Least") "worth"
  m_Most_init : Md K "Most" "__init__" "Rule.__init__" cRule_init []
  m_Most_word : Md K "Most" "word" "Most.word" cMost_word []
  M_Most_word : Meth K (He.ga K "Most") "word" (He.ma K (He.ga K "Most") "word")
  m_Most_fits : Md K "Most" "fits" "Most.fits" cMost_fits []
  M_Most_fits : Meth K (He.ga K "Most") "fits" (He.ma K (He.ga K "Most") "fits")
  m_Most_tells : Md K "Most" "tells" "Rule.tells" cRule_tells []
  M_Most_tells : Meth K (He.ga K "Most") "tells" (He.ma K (He.ga K "Most") "tells")
  m_Most_told : Md K "Most" "told" "Rule.told" cRule_told []
  M_Most_told : Meth K (He.ga K "Most") "told" (He.ma K (He.ga K "Most") "told")
  n_Most_first : NoAttr K (He.ga K "Most") "first"
  n_Most_last : NoAttr K (He.ga K "Most") "last"
  n_Most_worth : NoAttr K (He.ga K "Most") "worth"
  m_Deal_init : Md K "Deal" "__init__" "Rule.__init__" cRule_init []
  m_Deal_word : Md K "Deal" "word" "Deal.word" cDeal_word []
  M_Deal_word : Meth K (He.ga K "Deal") "word" (He.ma K (He.ga K "Deal") "word")
  m_Deal_fits : Md K "Deal" "fits" "Deal.fits" cDeal_fits []
  M_Deal_fits : Meth K (He.ga K "Deal") "fits" (He.ma K (He.ga K "Deal") "fits")
  m_Deal_tells : Md K "Deal" "tells" "Rule.tells" cRule_tells []
  M_Deal_tells : Meth K (He.ga K "Deal") "tells" (He.ma K (He.ga K "Deal") "tells")
  m_Deal_told : Md K "Deal" "told" "Rule.told" cRule_told []
  M_Deal_told : Meth K (He.ga K "Deal") "told" (He.ma K (He.ga K "Deal") "told")
  n_Deal_first : NoAttr K (He.ga K "Deal") "first"
  n_Deal_last : NoAttr K (He.ga K "Deal") "last"
  n_Deal_worth : NoAttr K (He.ga K "Deal") "worth"
  m_Fee_init : Md K "Fee" "__init__" "Rule.__init__" cRule_init []
  m_Fee_word : Md K "Fee" "word" "Fee.word" cFee_word []
  M_Fee_word : Meth K (He.ga K "Fee") "word" (He.ma K (He.ga K "Fee") "word")
  m_Fee_fits : Md K "Fee" "fits" "Fee.fits" cFee_fits []
  M_Fee_fits : Meth K (He.ga K "Fee") "fits" (He.ma K (He.ga K "Fee") "fits")
  m_Fee_tells : Md K "Fee" "tells" "Rule.tells" cRule_tells []
  M_Fee_tells : Meth K (He.ga K "Fee") "tells" (He.ma K (He.ga K "Fee") "tells")
  m_Fee_told : Md K "Fee" "told" "Rule.told" cRule_told []
  M_Fee_told : Meth K (He.ga K "Fee") "told" (He.ma K (He.ga K "Fee") "told")
  n_Fee_first : NoAttr K (He.ga K "Fee") "first"
  n_Fee_last : NoAttr K (He.ga K "Fee") "last"
  n_Fee_worth : NoAttr K (He.ga K "Fee") "worth"
  m_Book_init : Md K "Book" "__init__" "Book.__init__" cBook_init [.non]
  m_Book_rules : Md K "Book" "rules" "Book.rules" cBook_rules []
  M_Book_rules : Meth K (He.ga K "Book") "rules" (He.ma K (He.ga K "Book") "rules")
  m_Book_tells_of : Md K "Book" "tells_of" "Book.tells_of" cBook_tells_of []
  M_Book_tells_of : Meth K (He.ga K "Book") "tells_of" (He.ma K (He.ga K "Book") "tells_of")
  n_Book_kept : NoAttr K (He.ga K "Book") "kept"
  n_Book_newest : NoAttr K (He.ga K "Book") "newest"
  k_LAST_DAY : ∃ t, mg "LAST_DAY" = some (.int 1000000 t)
  k_MOST_NIGHTS : ∃ t, mg "MOST_NIGHTS" = some (.int 14 t)
  k_MOST_COINS : ∃ t, mg "MOST_COINS" = some (.int 1000000000000 t)
  k_MOST_RULES : ∃ t, mg "MOST_RULES" = some (.int 24 t)
  k_WORDS : mg "WORDS" = some (.ref (He.ga K "WORDS"))
  words : ∀ H : Hp, SqT K H (He.ga K "WORDS") [.str "price", .str "come", .str "go", .str "least", .str "most", .str "deal", .str "fee"]
  b_len : mg "len" = none
  b_isinstance : mg "isinstance" = none
  b_int : mg "int" = none
  b_bool : mg "bool" = none
  b_tuple : mg "tuple" = none
  b_list : mg "list" = none
  b_str : mg "str" = none
  b_range : mg "range" = none
  b_sorted : mg "sorted" = none
  b_sum : mg "sum" = none
  b_max : mg "max" = none
  b_enumerate : mg "enumerate" = none
  b_all : mg "all" = none
  b_any : mg "any" = none
  b_abs : mg "abs" = none
/-- the class of a word -/
abbrev cA (K : PySem.W.Frag) (w : Wd) : Addr := He.ga K w.c
theorem Tx.cl {K : PySem.W.Frag} {mg : Str → Option Value} (T : Tx K mg) (w : Wd) : Cls K (cA K w) := by
  cases w
  · exact T.k_Price.c
  · exact T.k_Come.c
  · exact T.k_Go.c
  · exact T.k_Least.c
  · exact T.k_Most.c
  · exact T.k_Deal.c
  · exact T.k_Fee.c
theorem Tx.n_first {K : PySem.W.Frag} {mg : Str → Option Value} (T : Tx K mg) (w : Wd) : NoAttr K (cA K w) "first" := by
  cases w
  · exact T.n_Price_first
  · exact T.n_Come_first
  · exact T.n_Go_first
  · exact T.n_Least_first
  · exact T.n_Most_first
  · exact T.n_Deal_first
  · exact T.n_Fee_first
theorem Tx.n_last {K : PySem.W.Frag} {mg : Str → Option Value} (T : Tx K mg) (w : Wd) : NoAttr K (cA K w) "last" := by
  cases w
  · exact T.n_Price_last
  · exact T.n_Come_last
  · exact T.n_Go_last
  · exact T.n_Least_last
  · exact T.n_Most_last
  · exact T.n_Deal_last
  · exact T.n_Fee_last
theorem Tx.n_worth {K : PySem.W.Frag} {mg : Str → Option Value} (T : Tx K mg) (w : Wd) : NoAttr K (cA K w) "worth" := by
  cases w
  · exact T.n_Price_worth
  · exact T.n_Come_worth
  · exact T.n_Go_worth
  · exact T.n_Least_worth
  · exact T.n_Most_worth
  · exact T.n_Deal_worth
  · exact T.n_Fee_worth
theorem Tx.M_word {K : PySem.W.Frag} {mg : Str → Option Value} (T : Tx K mg) (w : Wd) : Meth K (cA K w) "word" (He.ma K (cA K w) "word") := by
  cases w
  · exact T.M_Price_word
  · exact T.M_Come_word
  · exact T.M_Go_word
  · exact T.M_Least_word
  · exact T.M_Most_word
  · exact T.M_Deal_word
  · exact T.M_Fee_word
theorem Tx.M_fits {K : PySem.W.Frag} {mg : Str → Option Value} (T : Tx K mg) (w : Wd) : Meth K (cA K w) "fits" (He.ma K (cA K w) "fits") := by
  cases w
  · exact T.M_Price_fits
  · exact T.M_Come_fits
  · exact T.M_Go_fits
  · exact T.M_Least_fits
  · exact T.M_Most_fits
  · exact T.M_Deal_fits
  · exact T.M_Fee_fits
theorem Tx.M_tells {K : PySem.W.Frag} {mg : Str → Option Value} (T : Tx K mg) (w : Wd) : Meth K (cA K w) "tells" (He.ma K (cA K w) "tells") := by
  cases w
  · exact T.M_Price_tells
  · exact T.M_Come_tells
  · exact T.M_Go_tells
  · exact T.M_Least_tells
  · exact T.M_Most_tells
  · exact T.M_Deal_tells
  · exact T.M_Fee_tells
theorem Tx.M_told {K : PySem.W.Frag} {mg : Str → Option Value} (T : Tx K mg) (w : Wd) : Meth K (cA K w) "told" (He.ma K (cA K w) "told") := by
  cases w
  · exact T.M_Price_told
  · exact T.M_Come_told
  · exact T.M_Go_told
  · exact T.M_Least_told
  · exact T.M_Most_told
  · exact T.M_Deal_told
  · exact T.M_Fee_told
theorem Tx.m_tells {K : PySem.W.Frag} {mg : Str → Option Value} (T : Tx K mg) (w : Wd) : Md K w.c "tells" "Rule.tells" cRule_tells [] := by
  cases w
  · exact T.m_Price_tells
  · exact T.m_Come_tells
  · exact T.m_Go_tells
  · exact T.m_Least_tells
  · exact T.m_Most_tells
  · exact T.m_Deal_tells
  · exact T.m_Fee_tells
theorem Tx.m_told {K : PySem.W.Frag} {mg : Str → Option Value} (T : Tx K mg) (w : Wd) : Md K w.c "told" "Rule.told" cRule_told [] := by
  cases w
  · exact T.m_Price_told
  · exact T.m_Come_told
  · exact T.m_Go_told
  · exact T.m_Least_told
  · exact T.m_Most_told
  · exact T.m_Deal_told
  · exact T.m_Fee_told
theorem Tx.m_init {K : PySem.W.Frag} {mg : Str → Option Value} (T : Tx K mg) (w : Wd) : Md K w.c "__init__" "Rule.__init__" cRule_init [] := by
  cases w
  · exact T.m_Price_init
  · exact T.m_Come_init
  · exact T.m_Go_init
  · exact T.m_Least_init
  · exact T.m_Most_init
  · exact T.m_Deal_init
  · exact T.m_Fee_init
theorem Tx.kl {K : PySem.W.Frag} {mg : Str → Option Value} (T : Tx K mg) (w : Wd) : Kl K mg w.c := by
  cases w
  · exact T.k_Price
  · exact T.k_Come
  · exact T.k_Go
  · exact T.k_Least
  · exact T.k_Most
  · exact T.k_Deal
  · exact T.k_Fee
end Stp
namespace Stp
open PySem PySem.Spec PyProof.Rows L2
/-! ### the data and how they lie in the heap -/
inductive Wo where
  | non | int (i : Int) | bl (b : Bool) | two (m f : Int)
  deriving DecidableEq
structure Rl where
  w : Wd
  a : Int
  b : Int
  x : Wo
def WoOk : Wd → Wo → Prop
  | .price, .non => True
  | .price, .int i => 0 ≤ i ∧ i ≤ 1000000000000
  | .come, .bl _ => True
  | .go, .bl _ => True
  | .least, .int i => 1 ≤ i ∧ i ≤ 14
  | .most, .int i => 1 ≤ i ∧ i ≤ 14
  | .deal, .non => True
  | .deal, .two m f => 1 ≤ m ∧ m ≤ 14 ∧ 1 ≤ f ∧ f < m
  | .fee, .int i => 0 ≤ i ∧ i ≤ 1000000000000
  | _, _ => False
structure Rl.Ok (r : Rl) : Prop where
  lo : 0 ≤ r.a
  le : r.a ≤ r.b
  hi : r.b ≤ 1000000
  wo : WoOk r.w r.x
def Rl.has (r : Rl) (d : Int) : Bool := decide (r.a ≤ d) && decide (d ≤ r.b)
def usualW : Wd → Wo
  | .price => .non | .come => .bl true | .go => .bl true | .least => .int 1 | .most => .int 14 | .deal => .non | .fee => .int 0
def tel (rs : List Rl) (w : Wd) (d : Int) : Wo := match (rs.filter (fun r => decide (r.w = w))).reverse.find? (fun r => r.has d) with
  | some r => r.x
  | none => usualW w
theorem usual_ok (w : Wd) : WoOk w (usualW w) := by cases w <;> simp [WoOk, usualW]
theorem tel_ok {rs : List Rl} (h : ∀ r ∈ rs, r.Ok) (w : Wd) (d : Int) : WoOk w (tel rs w d) := by
  unfold tel
  split
  · rename_i r e
    have m := List.mem_of_find?_eq_some e
    have m2 := List.mem_filter.mp (List.mem_reverse.mp m)
    have e2 : r.w = w := of_decide_eq_true m2.2
    rw [← e2]
    exact (h r m2.1).wo
  · exact usual_ok w
/-! ### strs -/
theorem Wd.s_inj {w v : Wd} (h : w.s = v.s) : w = v := by
  cases w <;> cases v <;> first | rfl | exact absurd h (by decide +kernel)
/-! ### in the heap -/
inductive WoAt (H : Hp) : V → Wo → Prop where
  | non : WoAt H .non .non
  | int (i : Int) : WoAt H (.int i) (.int i)
  | bl (b : Bool) : WoAt H (.bl b) (.bl b)
  | two {p : Addr} {m f : Int} (h : H p = some (.tup [.int m, .int f])) : WoAt H (.ref p) (.two m f)
theorem WoAt.mono {H H' : Hp} (s : Same H H') {v : V} {x : Wo} (h : WoAt H v x) : WoAt H' v x := by
  cases h with
  | non => exact .non
  | int i => exact .int i
  | bl b => exact .bl b
  | two h => exact .two (s _ _ h)
/-- a rule as a tuple -/
def TuAt (H : Hp) (v : V) (r : Rl) : Prop := ∃ p x, v = .ref p ∧ H p = some (.tup [.str r.w.s, .int r.a, .int r.b, x]) ∧ WoAt H x r.x
theorem TuAt.mono {H H' : Hp} (s : Same H H') {v : V} {r : Rl} : TuAt H v r → TuAt H' v r := fun ⟨p, x, e, h, k⟩ => ⟨p, x, e, s _ _ h, k.mono s⟩
/-- a row of things, one by one -/
inductive All2 {α β : Type} (R : α → β → Prop) : List α → List β → Prop where
  | nil : All2 R [] []
  | cons {a b as bs} : R a b → All2 R as bs → All2 R (a :: as) (b :: bs)
theorem All2.mono {α β : Type} {R S : α → β → Prop} (h : ∀ a b, R a b → S a b) : ∀ {as bs}, All2 R as bs → All2 S as bs
  | _, _, .nil => .nil
  | _, _, .cons x t => .cons (h _ _ x) (t.mono h)
theorem All2.length {α β : Type} {R : α → β → Prop} : ∀ {as bs}, All2 R as bs → as.length = bs.length
  | _, _, .nil => rfl
  | _, _, .cons _ t => congrArg (· + 1) t.length
theorem All2.get {α β : Type} {R : α → β → Prop} : ∀ {as bs} {i : Nat} {a : α}, All2 R as bs → as[i]? = some a → ∃ b, bs[i]? = some b ∧ R a b
  | _, _, _, _, .nil, h => by simp at h
  | _, _, 0, _, .cons x _, h => by simp at h; subst h; exact ⟨_, rfl, x⟩
  | _, _, i + 1, _, .cons _ t, h => by
    obtain ⟨b, h1, h2⟩ := t.get (i := i) (by simpa using h)
    exact ⟨b, by simpa using h1, h2⟩
theorem All2.get' {α β : Type} {R : α → β → Prop} : ∀ {as bs} {i : Nat} {b : β}, All2 R as bs → bs[i]? = some b → ∃ a, as[i]? = some a ∧ R a b
  | _, _, _, _, .nil, h => by simp at h
  | _, _, 0, _, .cons x _, h => by simp at h; subst h; exact ⟨_, rfl, x⟩
  | _, _, i + 1, _, .cons _ t, h => by
    obtain ⟨b, h1, h2⟩ := t.get' (i := i) (by simpa using h)
    exact ⟨b, by simpa using h1, h2⟩
theorem All2.snoc {α β : Type} {R : α → β → Prop} {a : α} {b : β} : ∀ {as bs}, All2 R as bs → R a b → All2 R (as ++ [a]) (bs ++ [b])
  | _, _, .nil, h => .cons h .nil
  | _, _, .cons x t, h => .cons x (t.snoc h)
theorem All2.app {α β : Type} {R : α → β → Prop} : ∀ {as bs cs ds}, All2 R as bs → All2 R cs ds → All2 R (as ++ cs) (bs ++ ds)
  | _, _, _, _, .nil, h => h
  | _, _, _, _, .cons x t, h => .cons x (t.app h)
theorem All2.take {α β : Type} {R : α → β → Prop} : ∀ {as bs} (n : Nat), All2 R as bs → All2 R (as.take n) (bs.take n)
  | _, _, 0, _ => by simp; exact .nil
  | _, _, _ + 1, .nil => by simp; exact .nil
  | _, _, n + 1, .cons x t => by simp; exact .cons x (t.take n)
/-- an object of a rule -/
def RuFl (a b : Int) (x : V) : List (Str × V) := [("first", .int a), ("last", .int b), ("worth", x)]
theorem nq1 : ¬ (("first" : Str) = "last") := by decide +kernel
theorem nq2 : ¬ (("first" : Str) = "worth") := by decide +kernel
theorem nq3 : ¬ (("last" : Str) = "worth") := by decide +kernel
theorem ruFl_eq (a b : Int) (x : V) : RuFl a b x = putF "worth" x (putF "last" (.int b) (putF "first" (.int a) [])) := by
  simp only [putF, if_neg nq1, if_neg nq2, if_neg nq3]
  rfl
theorem ruFl_first (a b : Int) (x : V) : (RuFl a b x).lookup ("first" : Str) = some (.int a) := by
  rw [ruFl_eq, lookup_putF, if_neg nq2, lookup_putF, if_neg nq1, lookup_putF, if_pos rfl]
theorem ruFl_last (a b : Int) (x : V) : (RuFl a b x).lookup ("last" : Str) = some (.int b) := by
  rw [ruFl_eq, lookup_putF, if_neg nq3, lookup_putF, if_pos rfl]
theorem ruFl_worth (a b : Int) (x : V) : (RuFl a b x).lookup ("worth" : Str) = some x := by
  rw [ruFl_eq, lookup_putF, if_pos rfl]
theorem ruFl_no (a b : Int) (x : V) {m : Str} (h1 : ¬ m = "worth") (h2 : ¬ m = "last") (h3 : ¬ m = "first") : (RuFl a b x).lookup m = none := by
  rw [ruFl_eq, lookup_putF, if_neg h1, lookup_putF, if_neg h2, lookup_putF, if_neg h3]
  rfl
theorem ruFl_word (a b : Int) (x : V) : (RuFl a b x).lookup ("word" : Str) = none := ruFl_no a b x (by decide +kernel) (by decide +kernel) (by decide +kernel)
theorem ruFl_fits (a b : Int) (x : V) : (RuFl a b x).lookup ("fits" : Str) = none := ruFl_no a b x (by decide +kernel) (by decide +kernel) (by decide +kernel)
theorem ruFl_tells (a b : Int) (x : V) : (RuFl a b x).lookup ("tells" : Str) = none := ruFl_no a b x (by decide +kernel) (by decide +kernel) (by decide +kernel)
theorem ruFl_told (a b : Int) (x : V) : (RuFl a b x).lookup ("told" : Str) = none := ruFl_no a b x (by decide +kernel) (by decide +kernel) (by decide +kernel)
def RuAt (K : PySem.W.Frag) (H : Hp) (a : Addr) (r : Rl) : Prop := ∃ dx x, H a = some (.ins (cA K r.w) dx (RuFl r.a r.b x)) ∧ WoAt H x r.x
theorem RuAt.mono {K : PySem.W.Frag} {H H' : Hp} (s : Same H H') {a : Addr} {r : Rl} : RuAt K H a r → RuAt K H' a r := fun ⟨dx, x, h, k⟩ => ⟨dx, x, s _ _ h, k.mono s⟩
/-- the objects of the rules of a word, the newer ones ahead -/
def newer (ps : List (Addr × Rl)) (w : Wd) : List (Addr × Rl) := (ps.filter (fun p => decide (p.2.w = w))).reverse
def refs (ps : List (Addr × Rl)) : List V := ps.map fun p => V.ref p.1
def NwAt (H : Hp) (kvs : List (Key × V)) (ps : List (Addr × Rl)) : Prop := ∀ w : Wd,
  (valV kvs (Sum.inr w.s : Key) = none ∧ newer ps w = []) ∨ ∃ l, valV kvs (Sum.inr w.s : Key) = some (.ref l) ∧ H l = some (.lst (refs (newer ps w)))
theorem NwAt.mono {H H' : Hp} (s : Same H H') {kvs : List (Key × V)} {ps : List (Addr × Rl)} (h : NwAt H kvs ps) : NwAt H' kvs ps := fun w => by
  rcases h w with h | ⟨l, h1, h2⟩
  · exact .inl h
  · exact .inr ⟨l, h1, s _ _ h2⟩
def BkFl (k n : Addr) : List (Str × V) := [("kept", .ref k), ("newest", .ref n)]
theorem nq4 : ¬ (("kept" : Str) = "newest") := by decide +kernel
theorem bkFl_eq (k n : Addr) : BkFl k n = putF "newest" (.ref n) (putF "kept" (.ref k) []) := by
  simp only [putF, if_neg nq4]
  rfl
theorem bkFl_kept (k n : Addr) : (BkFl k n).lookup ("kept" : Str) = some (.ref k) := by
  rw [bkFl_eq, lookup_putF, if_neg nq4, lookup_putF, if_pos rfl]
theorem bkFl_newest (k n : Addr) : (BkFl k n).lookup ("newest" : Str) = some (.ref n) := by
  rw [bkFl_eq, lookup_putF, if_pos rfl]
theorem bkFl_no (k n : Addr) {m : Str} (h1 : ¬ m = "newest") (h2 : ¬ m = "kept") : (BkFl k n).lookup m = none := by
  rw [bkFl_eq, lookup_putF, if_neg h1, lookup_putF, if_neg h2]
  rfl
theorem bkFl_rules (k n : Addr) : (BkFl k n).lookup ("rules" : Str) = none := bkFl_no k n (by decide +kernel) (by decide +kernel)
theorem bkFl_tells (k n : Addr) : (BkFl k n).lookup ("tells_of" : Str) = none := bkFl_no k n (by decide +kernel) (by decide +kernel)
structure BkAt (K : PySem.W.Frag) (H : Hp) (b : Addr) (rs : List Rl) : Prop where
  ex : ∃ (dx kp nw : Addr) (kvs : List (Key × V)) (ps : List (Addr × Rl)), H b = some (.ins (He.ga K "Book") dx (BkFl kp nw)) ∧ H kp = some (.lst (refs ps)) ∧ H nw = some (.dK kvs) ∧ NwAt H kvs ps ∧ (∀ p ∈ ps, RuAt K H p.1 p.2) ∧ ps.map (·.2) = rs
  ok : ∀ r ∈ rs, r.Ok
theorem BkAt.mono {K : PySem.W.Frag} {H H' : Hp} (s : Same H H') {b : Addr} {rs : List Rl} (h : BkAt K H b rs) : BkAt K H' b rs := by
  obtain ⟨⟨dx, kp, nw, kvs, ps, h1, h2, h3, h4, h5, h6⟩, h7⟩ := h
  exact ⟨⟨dx, kp, nw, kvs, ps, s _ _ h1, s _ _ h2, s _ _ h3, h4.mono s, fun p hp => (h5 p hp).mono s, h6⟩, h7⟩
theorem tel_newer {ps : List (Addr × Rl)} (w : Wd) (d : Int) : tel (ps.map (·.2)) w d = match (newer ps w).find? (fun p => p.2.has d) with
    | some p => p.2.x
    | none => usualW w := by
  unfold tel newer
  rw [List.filter_map, ← List.map_reverse, List.find?_map]
  have e : ((fun r : Rl => decide (r.w = w)) ∘ fun x : Addr × Rl => x.2) = fun p => decide (p.2.w = w) := rfl
  have e2 : ((fun r : Rl => r.has d) ∘ fun x : Addr × Rl => x.2) = fun p => p.2.has d := rfl
  rw [e, e2]
  cases (ps.filter fun p => decide (p.2.w = w)).reverse.find? fun p => p.2.has d <;> rfl
/-! ### heaps -/
theorem snew {H H1 : Hp} (s : Same H H1) {p : Addr} (h : H p = none) {o : HO} : Same H (upd H1 p o) := fun b u e => by
  rw [upd_ne (ne_of_none e h)]
  exact s _ _ e
theorem snewR {H : Hp} {p : Addr} (h : H p = none) {o : HO} : Same H (upd H p o) := snew (Same.refl H) h
/-- an address that is new behind a heap that keeps H was new in H -/
theorem free_of {H H1 : Hp} (s : Same H H1) {p : Addr} (h : H1 p = none) : H p = none := s.free h
end Stp
namespace Stp
open PySem PySem.Spec PyProof.Rows L2
section
variable {P : Program} {w : World} {K : PySem.W.Frag} {mg : Str → Option Value} {base : Heap}

def sp1 (R : V → Hp → VK → Prop) : Sp := fun vs H Q _ => ∃ a, vs = [a] ∧ R a H Q
def sp2 (R : V → V → Hp → VK → Prop) : Sp := fun vs H Q _ => ∃ a b, vs = [a, b] ∧ R a b H Q
def sp3 (R : V → V → V → Hp → VK → Prop) : Sp := fun vs H Q _ => ∃ a b c, vs = [a, b, c] ∧ R a b c H Q
def sp4 (R : V → V → V → V → Hp → VK → Prop) : Sp := fun vs H Q _ => ∃ a b c d, vs = [a, b, c, d] ∧ R a b c d H Q
theorem sp1_len {R : V → Hp → VK → Prop} {α : Type} {x : α} (vs : List V) (H : Hp) (Q : VK) (E : XK) (h : sp1 R vs H Q E) : vs.length = [x].length := by
  obtain ⟨a, rfl, _⟩ := h
  rfl
theorem sp2_len {R : V → V → Hp → VK → Prop} {α : Type} {x y : α} (vs : List V) (H : Hp) (Q : VK) (E : XK) (h : sp2 R vs H Q E) : vs.length = [x, y].length := by
  obtain ⟨a, b, rfl, _⟩ := h
  rfl
theorem sp3_len {R : V → V → V → Hp → VK → Prop} {α : Type} {x y z : α} (vs : List V) (H : Hp) (Q : VK) (E : XK) (h : sp3 R vs H Q E) : vs.length = [x, y, z].length := by
  obtain ⟨a, b, c, rfl, _⟩ := h
  rfl
theorem sp4_len {R : V → V → V → V → Hp → VK → Prop} {α : Type} {x y z u : α} (vs : List V) (H : Hp) (Q : VK) (E : XK) (h : sp4 R vs H Q E) : vs.length = [x, y, z, u].length := by
  obtain ⟨a, b, c, d, rfl, _⟩ := h
  rfl
theorem qT {Q : VK} {H : Hp} {c : Prop} [Decidable c] (h : c) (k : Q (.bl true) H) : Q (.bl (decide c)) H := by
  rw [decide_eq_true h]
  exact k
theorem qF {Q : VK} {H : Hp} {c : Prop} [Decidable c] (h : ¬ c) (k : Q (.bl false) H) : Q (.bl (decide c)) H := by
  rw [decide_eq_false h]
  exact k
/-- a tuple of two days -/
def TwoAt (K : PySem.W.Frag) (H : Hp) (v : V) (a b : Int) : Prop := ∃ p, v = .ref p ∧ H p = some (.tup [.int a, .int b])

theorem sc_is_whole : FnScope ["thing"] ["thing"] (defScope sIsWhole) := ⟨rfl, rfl, rfl, by decide +kernel, rfl, by decide +kernel, by decide +kernel⟩

def sp_is_whole : Sp := sp1 fun a _H Q => ∃ i, a = .int i ∧ Q (.bl true) _H
theorem has_is_whole (T : Tx K mg) : Has P w K mg base "is_whole" 1 ["thing"] (sp_is_whole) := by
  have g_nd := sc_is_whole.nd
  refine T.d_is_whole.has sc_is_whole (fun _ _ _ _ _ _ us hl => match us, hl with | [_], _ => rfl) sp1_len (fun cdv A outer s H vs Q E hr h => ?_)
  obtain ⟨a0, rfl, h⟩ := h
  obtain ⟨i, rfl, k⟩ := h
  refine ⟨_, (pss_one (ps_ret (pe_and (pe_callB call_isi (by rfl) T.b_isinstance (by decide +kernel) (pa_cons (pv 0) (pa_cons (pe_bltn (v := .ty "int") (by rfl) T.b_int (by decide +kernel) rfl) pa_nil))) (pe_one (pe_not (pe_callB call_isi (by rfl) T.b_isinstance (by decide +kernel) (pa_cons (pv 0) (pa_cons (pe_bltn (v := .ty "bool") (by rfl) T.b_bool (by decide +kernel) rfl) pa_nil)))))))), ?_⟩
  exact ⟨_, rfl, _, _, _, _, _, rfl, .ty _, .base (.int i), kit_ty (r := true) (by decide +kernel), _, rfl, iteT ⟨_, rfl, _, _, _, _, _, rfl, .ty _, .base (.int i), kit_ty (r := false) (by decide +kernel), _, rfl, k⟩⟩

theorem sc_is_day : FnScope ["thing"] ["thing"] (defScope sIsDay) := ⟨rfl, rfl, rfl, by decide +kernel, rfl, by decide +kernel, by decide +kernel⟩

def sp_is_day : Sp := sp1 fun a _H Q => ∃ i, a = .int i ∧ 0 ≤ i ∧ i ≤ 1000000 ∧ Q (.bl true) _H
theorem has_is_day (T : Tx K mg) : Has P w K mg base "is_day" 2 ["thing"] (sp_is_day) := by
  have g_is_whole := has_is_whole (P := P) (w := w) (base := base) T
  have g_nd := sc_is_day.nd
  refine T.d_is_day.has sc_is_day (fun _ _ _ _ _ _ us hl => match us, hl with | [_], _ => rfl) sp1_len (fun cdv A outer s H vs Q E hr h => ?_)
  obtain ⟨a0, rfl, h⟩ := h
  obtain ⟨i, rfl, h0, h1, k⟩ := h
  refine ⟨_, (pss_one (ps_ret (pe_and (pcall g_is_whole (hr.mono (by decide)) (by rfl) (pa_cons (pv 0) pa_nil)) (pe_one (pe_chain op_le op_le pe_int (pv 0) (pe_gint (by rfl) T.k_LAST_DAY)))))), ?_⟩
  refine ⟨_, rfl, _, rfl, i, rfl, _, rfl, iteT ?_⟩
  refine ⟨_, rfl, _, _, rfl, rfl, _, rfl, ?_⟩
  rw [decide_eq_true h0]
  refine iteT ⟨_, _, rfl, rfl, ?_⟩
  exact qT (Q := Q) h1 k

theorem sc_is_two_days : FnScope ["thing"] ["thing"] (defScope sIsTwoDays) := ⟨rfl, rfl, rfl, by decide +kernel, rfl, by decide +kernel, by decide +kernel⟩

def sp_is_two_days : Sp := sp1 fun a _H Q => ∃ p x y, a = .ref p ∧ _H p = some (.tup [.int x, .int y]) ∧ 0 ≤ x ∧ x ≤ 1000000 ∧ 0 ≤ y ∧ y ≤ 1000000 ∧ Q (.bl true) _H
theorem has_is_two_days (T : Tx K mg) : Has P w K mg base "is_two_days" 3 ["thing"] (sp_is_two_days) := by
  have g_is_day := has_is_day (P := P) (w := w) (base := base) T
  have g_nd := sc_is_two_days.nd
  refine T.d_is_two_days.has sc_is_two_days (fun _ _ _ _ _ _ us hl => match us, hl with | [_], _ => rfl) sp1_len (fun cdv A outer s H vs Q E hr h => ?_)
  obtain ⟨a0, rfl, h⟩ := h
  obtain ⟨p, x, y, rfl, hp, x0, x1, y0, y1, k⟩ := h
  refine ⟨_, (pss_one (ps_ret (pe_and (pe_callB call_isi (by rfl) T.b_isinstance (by decide +kernel) (pa_cons (pv 0) (pa_cons (pe_bltn (v := .ty "tuple") (by rfl) T.b_tuple (by decide +kernel) rfl) pa_nil))) (pe_and (pe_cmpR op_eq (pe_callB clen (by rfl) T.b_len (by decide +kernel) (pa_cons (pv 0) pa_nil)) pe_int (nomark _)) (pe_and (pcall g_is_day (hr.mono (by decide)) (by rfl) (pa_cons (pe_ix ix_tup (pv 0) pe_int (fun _ _ => rfl)) pa_nil)) (pe_one (pcall g_is_day (hr.mono (by decide)) (by rfl) (pa_cons (pe_ix ix_tup (pv 0) pe_int (fun _ _ => rfl)) pa_nil)))))))), ?_⟩
  refine ⟨_, rfl, _, _, _, _, _, rfl, .ty _, .base (.tup hp), kit_ty (r := true) (by decide +kernel), _, rfl, iteT ?_⟩
  refine ⟨_, rfl, p, _, rfl, .inr (SqT.of hp), rfl, _, rfl, iteT ?_⟩
  refine ⟨_, rfl, p, _, _, _, rfl, rfl, SqT.of hp, rfl, _, rfl, x, rfl, x0, x1, _, rfl, iteT ?_⟩
  exact ⟨_, rfl, p, _, _, _, rfl, rfl, SqT.of hp, rfl, _, rfl, y, rfl, y0, y1, k⟩

theorem sc_is_stretch : FnScope ["thing"] ["thing"] (defScope sIsStretch) := ⟨rfl, rfl, rfl, by decide +kernel, rfl, by decide +kernel, by decide +kernel⟩

def sp_is_stretch : Sp := sp1 fun a _H Q => ∃ p x y, a = .ref p ∧ _H p = some (.tup [.int x, .int y]) ∧ 0 ≤ x ∧ x ≤ y ∧ y ≤ 1000000 ∧ Q (.bl true) _H
theorem has_is_stretch (T : Tx K mg) : Has P w K mg base "is_stretch" 4 ["thing"] (sp_is_stretch) := by
  have g_is_two_days := has_is_two_days (P := P) (w := w) (base := base) T
  have g_nd := sc_is_stretch.nd
  refine T.d_is_stretch.has sc_is_stretch (fun _ _ _ _ _ _ us hl => match us, hl with | [_], _ => rfl) sp1_len (fun cdv A outer s H vs Q E hr h => ?_)
  obtain ⟨a0, rfl, h⟩ := h
  obtain ⟨p, x, y, rfl, hp, x0, xy, y1, k⟩ := h
  refine ⟨_, (pss_one (ps_ret (pe_and (pcall g_is_two_days (hr.mono (by decide)) (by rfl) (pa_cons (pv 0) pa_nil)) (pe_one (pe_cmpR op_le (pe_ix ix_tup (pv 0) pe_int (fun _ _ => rfl)) (pe_ix ix_tup (pv 0) pe_int (fun _ _ => rfl)) (nomark _)))))), ?_⟩
  refine ⟨_, rfl, _, rfl, p, x, y, rfl, hp, x0, by omega, by omega, y1, _, rfl, iteT ?_⟩
  refine ⟨_, rfl, p, _, _, _, rfl, rfl, SqT.of hp, rfl, _, rfl, p, _, _, _, rfl, rfl, SqT.of hp, rfl, _, _, rfl, rfl, ?_⟩
  exact qT (Q := Q) xy k

theorem sc_is_stay : FnScope ["thing"] ["thing"] (defScope sIsStay) := ⟨rfl, rfl, rfl, by decide +kernel, rfl, by decide +kernel, by decide +kernel⟩

def sp_is_stay : Sp := sp1 fun a _H Q => ∃ p x y, a = .ref p ∧ _H p = some (.tup [.int x, .int y]) ∧ 0 ≤ x ∧ x < y ∧ y ≤ x + 14 ∧ y ≤ 1000000 ∧ Q (.bl true) _H
theorem has_is_stay (T : Tx K mg) : Has P w K mg base "is_stay" 4 ["thing"] (sp_is_stay) := by
  have g_is_two_days := has_is_two_days (P := P) (w := w) (base := base) T
  have g_nd := sc_is_stay.nd
  refine T.d_is_stay.has sc_is_stay (fun _ _ _ _ _ _ us hl => match us, hl with | [_], _ => rfl) sp1_len (fun cdv A outer s H vs Q E hr h => ?_)
  obtain ⟨a0, rfl, h⟩ := h
  obtain ⟨p, x, y, rfl, hp, x0, xy, y14, y1, k⟩ := h
  refine ⟨_, (pss_one (ps_ret (pe_and (pcall g_is_two_days (hr.mono (by decide)) (by rfl) (pa_cons (pv 0) pa_nil)) (pe_one (pe_chain op_le op_le pe_int (pe_op op_sub (pe_ix ix_tup (pv 0) pe_int (fun _ _ => rfl)) (pe_ix ix_tup (pv 0) pe_int (fun _ _ => rfl))) (pe_gint (by rfl) T.k_MOST_NIGHTS)))))), ?_⟩
  refine ⟨_, rfl, _, rfl, p, x, y, rfl, hp, x0, by omega, by omega, y1, _, rfl, iteT ?_⟩
  refine ⟨_, rfl, p, _, _, _, rfl, rfl, SqT.of hp, rfl, _, rfl, p, _, _, _, rfl, rfl, SqT.of hp, rfl, _, _, rfl, rfl, _, _, rfl, rfl, _, rfl, ?_⟩
  rw [decide_eq_true (show (1 : Int) ≤ y - x by omega)]
  refine iteT ⟨_, _, rfl, rfl, ?_⟩
  exact qT (Q := Q) (show y - x ≤ 14 by omega) k

theorem sc_nights_of : FnScope ["stay"] ["stay"] (defScope sNightsOf) := ⟨rfl, rfl, rfl, by decide +kernel, rfl, by decide +kernel, by decide +kernel⟩

def sp_nights_of : Sp := sp1 fun a H Q => ∃ p x y, a = .ref p ∧ H p = some (.tup [.int x, .int y]) ∧ 0 ≤ x ∧ x ≤ y ∧ y ≤ 1000000 ∧ ∀ q, H q = none → Q (.ref q) (upd H q (.lst (rgV x y)))
theorem has_nights_of (T : Tx K mg) : Has P w K mg base "nights_of" 1 ["stay"] (sp_nights_of) := by
  have g_nd := sc_nights_of.nd
  refine T.d_nights_of.has sc_nights_of (fun _ _ _ _ _ _ us hl => match us, hl with | [_], _ => rfl) sp1_len (fun cdv A outer s H vs Q E hr h => ?_)
  obtain ⟨a0, rfl, h⟩ := h
  obtain ⟨p, x, y, rfl, hp, x0, xy, y1, k⟩ := h
  refine ⟨_, (pss_one (ps_ret (pe_listRg rfl (by rfl) T.b_list (prg_2 (by rfl) T.b_range (pe_ix ix_tup (pv 0) pe_int (fun _ _ => rfl)) (pe_ix ix_tup (pv 0) pe_int (fun _ _ => rfl)))))), ?_⟩
  refine ⟨_, rfl, p, _, _, _, rfl, rfl, SqT.of hp, rfl, _, rfl, p, _, _, _, rfl, rfl, SqT.of hp, rfl, _, _, rfl, rfl, ⟨by omega, by omega, by omega, by omega, by omega⟩, ?_⟩
  exact k

end
end Stp
namespace Stp
open PySem PySem.Spec PyProof.Rows L2
section
variable {P : Program} {w : World} {K : PySem.W.Frag} {mg : Str → Option Value} {base : Heap}

theorem iteFd {c A B : Prop} [Decidable c] (hc : ¬ c) (h : B) : if decide c = true then A else B := by
  rw [decide_eq_false hc]
  exact iteF h
theorem iteTd {c A B : Prop} [Decidable c] (hc : c) (h : A) : if decide c = true then A else B := by
  rw [decide_eq_true hc]
  exact iteT h
theorem iteFn {c A B : Prop} [Decidable c] (hc : c) (h : B) : if (!decide c) = true then A else B := by
  rw [decide_eq_true hc]
  exact iteF h
theorem iteTn {c A B : Prop} [Decidable c] (hc : ¬ c) (h : A) : if (!decide c) = true then A else B := by
  rw [decide_eq_false hc]
  exact iteT h

theorem sc_is_coins : FnScope ["thing"] ["thing"] (defScope sIsCoins) := ⟨rfl, rfl, rfl, by decide +kernel, rfl, by decide +kernel, by decide +kernel⟩

def sp_is_coins : Sp := sp1 fun a _H Q => ∃ i, a = .int i ∧ 0 ≤ i ∧ i ≤ 1000000000000 ∧ Q (.bl true) _H
theorem has_is_coins (T : Tx K mg) : Has P w K mg base "is_coins" 2 ["thing"] (sp_is_coins) := by
  have g_is_whole := has_is_whole (P := P) (w := w) (base := base) T
  have g_nd := sc_is_coins.nd
  refine T.d_is_coins.has sc_is_coins (fun _ _ _ _ _ _ us hl => match us, hl with | [_], _ => rfl) sp1_len (fun cdv A outer s H vs Q E hr h => ?_)
  obtain ⟨a0, rfl, h⟩ := h
  obtain ⟨i, rfl, h0, h1, k⟩ := h
  refine ⟨_, (pss_one (ps_ret (pe_and (pcall g_is_whole (hr.mono (by decide)) (by rfl) (pa_cons (pv 0) pa_nil)) (pe_one (pe_chain op_le op_le pe_int (pv 0) (pe_gint (by rfl) T.k_MOST_COINS)))))), ?_⟩
  refine ⟨_, rfl, _, rfl, i, rfl, _, rfl, iteT ?_⟩
  refine ⟨_, rfl, _, _, rfl, rfl, _, rfl, ?_⟩
  exact iteTd h0 ⟨_, _, rfl, rfl, qT (Q := Q) h1 k⟩

theorem sc_is_nights : FnScope ["thing"] ["thing"] (defScope sIsNights) := ⟨rfl, rfl, rfl, by decide +kernel, rfl, by decide +kernel, by decide +kernel⟩

def sp_is_nights : Sp := sp1 fun a _H Q => ∃ i, a = .int i ∧ 1 ≤ i ∧ i ≤ 14 ∧ Q (.bl true) _H
theorem has_is_nights (T : Tx K mg) : Has P w K mg base "is_nights" 2 ["thing"] (sp_is_nights) := by
  have g_is_whole := has_is_whole (P := P) (w := w) (base := base) T
  have g_nd := sc_is_nights.nd
  refine T.d_is_nights.has sc_is_nights (fun _ _ _ _ _ _ us hl => match us, hl with | [_], _ => rfl) sp1_len (fun cdv A outer s H vs Q E hr h => ?_)
  obtain ⟨a0, rfl, h⟩ := h
  obtain ⟨i, rfl, h0, h1, k⟩ := h
  refine ⟨_, (pss_one (ps_ret (pe_and (pcall g_is_whole (hr.mono (by decide)) (by rfl) (pa_cons (pv 0) pa_nil)) (pe_one (pe_chain op_le op_le pe_int (pv 0) (pe_gint (by rfl) T.k_MOST_NIGHTS)))))), ?_⟩
  refine ⟨_, rfl, _, rfl, i, rfl, _, rfl, iteT ?_⟩
  refine ⟨_, rfl, _, _, rfl, rfl, _, rfl, ?_⟩
  exact iteTd h0 ⟨_, _, rfl, rfl, qT (Q := Q) h1 k⟩

theorem sc_Rule___init : FnScope ["self", "first", "last", "worth"] ["self", "first", "last", "worth"] (defScope cRule_init) := ⟨rfl, rfl, rfl, by decide +kernel, rfl, by decide +kernel, by decide +kernel⟩

def sp_Rule___init (C : Addr) : Sp := sp4 fun s a b x H Q => ∃ p dx i j, s = .ref p ∧ a = .int i ∧ b = .int j ∧ H p = some (.ins C dx []) ∧ ∀ H', H' p = some (.ins C dx (RuFl i j x)) → (∀ q, q ≠ p → H' q = H q) → Q .non H'
theorem has_Rule_init (T : Tx K mg) (wd : Wd) : HasC P w K mg base wd.c (cA K wd) 1 ["self", "first", "last", "worth"] (sp_Rule___init (cA K wd)) := by
  have g_nd := sc_Rule___init.nd
  refine (T.kl wd).has (T.m_init wd) sc_Rule___init (fun fd F => F.bindsN fun _ _ _ _ _ _ us hl => match us, hl with | [_, _, _, _], _ => rfl) sp4_len (fun cdv A outer s H vs Q E hr h => ?_)
  obtain ⟨a0, a1, a2, a3, rfl, h⟩ := h
  obtain ⟨p, dx, i, j, rfl, rfl, rfl, hp, k⟩ := h
  refine ⟨_, (pss_cons (ps_fld (pv 0) (pv 1) rfl)
        (pss_cons (ps_fld (pv 0) (pv 2) rfl)
        (pss_one (ps_fld (pv 0) (pv 3) rfl)))), ?_⟩
  refine ⟨_, rfl, _, rfl, p, _, dx, [], rfl, hp, T.cl wd, T.n_first wd, (by decide), ?_⟩
  refine ⟨_, rfl, _, rfl, p, _, dx, _, rfl, upd_same, T.cl wd, T.n_last wd, (by show 1 < 1000; decide), ?_⟩
  refine ⟨_, rfl, _, rfl, p, _, dx, _, rfl, upd_same, T.cl wd, T.n_worth wd, (by simp only [putF, if_neg nq1]; show 2 < 1000; decide), ?_⟩
  refine k _ ?_ fun q hq => by rw [upd_ne hq, upd_ne hq, upd_ne hq]
  rw [upd_same, ruFl_eq]

theorem sc_Price_word : FnScope ["self"] ["self"] (defScope cPrice_word) := ⟨rfl, rfl, rfl, by decide +kernel, rfl, by decide +kernel, by decide +kernel⟩

def sp_Price_word : Sp := sp1 fun _a H Q => Q (.str Wd.price.s) H
theorem has_Price_word (T : Tx K mg) : HasM P w K mg base (He.ga K "Price") "word" 1 ["self"] sp_Price_word := by
  have g_nd := sc_Price_word.nd
  refine T.m_Price_word.has T.k_Price.c T.M_Price_word sc_Price_word (fun _ _ _ _ _ _ us hl => match us, hl with | [_], _ => rfl) sp1_len (fun cdv A outer s H vs Q E hr h => ?_)
  obtain ⟨a0, rfl, h⟩ := h
  refine ⟨_, (pss_one (ps_ret pe_str)), ?_⟩
  exact h

theorem sc_Come_word : FnScope ["self"] ["self"] (defScope cCome_word) := ⟨rfl, rfl, rfl, by decide +kernel, rfl, by decide +kernel, by decide +kernel⟩

def sp_Come_word : Sp := sp1 fun _a H Q => Q (.str Wd.come.s) H
theorem has_Come_word (T : Tx K mg) : HasM P w K mg base (He.ga K "Come") "word" 1 ["self"] sp_Come_word := by
  have g_nd := sc_Come_word.nd
  refine T.m_Come_word.has T.k_Come.c T.M_Come_word sc_Come_word (fun _ _ _ _ _ _ us hl => match us, hl with | [_], _ => rfl) sp1_len (fun cdv A outer s H vs Q E hr h => ?_)
  obtain ⟨a0, rfl, h⟩ := h
  refine ⟨_, (pss_one (ps_ret pe_str)), ?_⟩
  exact h

theorem sc_Go_word : FnScope ["self"] ["self"] (defScope cGo_word) := ⟨rfl, rfl, rfl, by decide +kernel, rfl, by decide +kernel, by decide +kernel⟩

def sp_Go_word : Sp := sp1 fun _a H Q => Q (.str Wd.go.s) H
theorem has_Go_word (T : Tx K mg) : HasM P w K mg base (He.ga K "Go") "word" 1 ["self"] sp_Go_word := by
  have g_nd := sc_Go_word.nd
  refine T.m_Go_word.has T.k_Go.c T.M_Go_word sc_Go_word (fun _ _ _ _ _ _ us hl => match us, hl with | [_], _ => rfl) sp1_len (fun cdv A outer s H vs Q E hr h => ?_)
  obtain ⟨a0, rfl, h⟩ := h
  refine ⟨_, (pss_one (ps_ret pe_str)), ?_⟩
  exact h

theorem sc_Least_word : FnScope ["self"] ["self"] (defScope cLeast_word) := ⟨rfl, rfl, rfl, by decide +kernel, rfl, by decide +kernel, by decide +kernel⟩

def sp_Least_word : Sp := sp1 fun _a H Q => Q (.str Wd.least.s) H
theorem has_Least_word (T : Tx K mg) : HasM P w K mg base (He.ga K "Least") "word" 1 ["self"] sp_Least_word := by
  have g_nd := sc_Least_word.nd
  refine T.m_Least_word.has T.k_Least.c T.M_Least_word sc_Least_word (fun _ _ _ _ _ _ us hl => match us, hl with | [_], _ => rfl) sp1_len (fun cdv A outer s H vs Q E hr h => ?_)
  obtain ⟨a0, rfl, h⟩ := h
  refine ⟨_, (pss_one (ps_ret pe_str)), ?_⟩
  exact h

theorem sc_Most_word : FnScope ["self"] ["self"] (defScope cMost_word) := ⟨rfl, rfl, rfl, by decide +kernel, rfl, by decide +kernel, by decide +kernel⟩

def sp_Most_word : Sp := sp1 fun _a H Q => Q (.str Wd.most.s) H
theorem has_Most_word (T : Tx K mg) : HasM P w K mg base (He.ga K "Most") "word" 1 ["self"] sp_Most_word := by
  have g_nd := sc_Most_word.nd
  refine T.m_Most_word.has T.k_Most.c T.M_Most_word sc_Most_word (fun _ _ _ _ _ _ us hl => match us, hl with | [_], _ => rfl) sp1_len (fun cdv A outer s H vs Q E hr h => ?_)
  obtain ⟨a0, rfl, h⟩ := h
  refine ⟨_, (pss_one (ps_ret pe_str)), ?_⟩
  exact h

theorem sc_Deal_word : FnScope ["self"] ["self"] (defScope cDeal_word) := ⟨rfl, rfl, rfl, by decide +kernel, rfl, by decide +kernel, by decide +kernel⟩

def sp_Deal_word : Sp := sp1 fun _a H Q => Q (.str Wd.deal.s) H
theorem has_Deal_word (T : Tx K mg) : HasM P w K mg base (He.ga K "Deal") "word" 1 ["self"] sp_Deal_word := by
  have g_nd := sc_Deal_word.nd
  refine T.m_Deal_word.has T.k_Deal.c T.M_Deal_word sc_Deal_word (fun _ _ _ _ _ _ us hl => match us, hl with | [_], _ => rfl) sp1_len (fun cdv A outer s H vs Q E hr h => ?_)
  obtain ⟨a0, rfl, h⟩ := h
  refine ⟨_, (pss_one (ps_ret pe_str)), ?_⟩
  exact h

theorem sc_Fee_word : FnScope ["self"] ["self"] (defScope cFee_word) := ⟨rfl, rfl, rfl, by decide +kernel, rfl, by decide +kernel, by decide +kernel⟩

def sp_Fee_word : Sp := sp1 fun _a H Q => Q (.str Wd.fee.s) H
theorem has_Fee_word (T : Tx K mg) : HasM P w K mg base (He.ga K "Fee") "word" 1 ["self"] sp_Fee_word := by
  have g_nd := sc_Fee_word.nd
  refine T.m_Fee_word.has T.k_Fee.c T.M_Fee_word sc_Fee_word (fun _ _ _ _ _ _ us hl => match us, hl with | [_], _ => rfl) sp1_len (fun cdv A outer s H vs Q E hr h => ?_)
  obtain ⟨a0, rfl, h⟩ := h
  refine ⟨_, (pss_one (ps_ret pe_str)), ?_⟩
  exact h

def sp_word (wd : Wd) : Sp := sp1 fun _a H Q => Q (.str wd.s) H
theorem has_word (T : Tx K mg) (wd : Wd) : HasM P w K mg base (cA K wd) "word" 1 ["self"] (sp_word wd) := by
  cases wd
  · exact has_Price_word T
  · exact has_Come_word T
  · exact has_Go_word T
  · exact has_Least_word T
  · exact has_Most_word T
  · exact has_Deal_word T
  · exact has_Fee_word T
theorem sc_Price_fits : FnScope ["self"] ["self"] (defScope cPrice_fits) := ⟨rfl, rfl, rfl, by decide +kernel, rfl, by decide +kernel, by decide +kernel⟩

def sp_Price_fits (K : PySem.W.Frag) : Sp := sp1 fun a H Q => ∃ p r, a = .ref p ∧ RuAt K H p r ∧ r.w = .price ∧ WoOk r.w r.x ∧ Q (.bl true) H
theorem has_Price_fits (T : Tx K mg) : HasM P w K mg base (He.ga K "Price") "fits" 3 ["self"] (sp_Price_fits K) := by
  have g_is_coins := has_is_coins (P := P) (w := w) (base := base) T
  have g_nd := sc_Price_fits.nd
  refine T.m_Price_fits.has T.k_Price.c T.M_Price_fits sc_Price_fits (fun _ _ _ _ _ _ us hl => match us, hl with | [_], _ => rfl) sp1_len (fun cdv A outer s H vs Q E hr h => ?_)
  obtain ⟨a0, rfl, h⟩ := h
  obtain ⟨p, r, rfl, ⟨dx, x, hp, hx⟩, hw, ho, k⟩ := h
  obtain ⟨rw, ra, rb, rx⟩ := r
  cases (show rw = _ from hw)
  simp only at hx ho hp
  refine ⟨_, (pss_one (ps_ret (pe_or (pe_cmpR op_isN (pe_fld (pv 0) rfl) pe_non (nomark _)) (pe_one (pcall g_is_coins (hr.mono (by decide)) (by rfl) (pa_cons (pe_fld (pv 0) rfl) pa_nil)))))), ?_⟩
  have hf := ruFl_worth ra rb x
  cases hx with
  | non => exact ⟨_, rfl, p, _, dx, _, _, rfl, hp, T.k_Price.c, T.n_Price_worth, hf, rfl, _, rfl, iteTd rfl k⟩
  | int i =>
    refine ⟨_, rfl, p, _, dx, _, _, rfl, hp, T.k_Price.c, T.n_Price_worth, hf, rfl, _, rfl, iteFd (by simp) ?_⟩
    exact ⟨_, rfl, p, _, dx, _, _, rfl, hp, T.k_Price.c, T.n_Price_worth, hf, _, rfl, i, rfl, ho.1, ho.2, k⟩
  | bl b => exact ho.elim
  | two e => exact ho.elim

theorem sc_Come_fits : FnScope ["self"] ["self"] (defScope cCome_fits) := ⟨rfl, rfl, rfl, by decide +kernel, rfl, by decide +kernel, by decide +kernel⟩

def sp_Come_fits (K : PySem.W.Frag) : Sp := sp1 fun a H Q => ∃ p r, a = .ref p ∧ RuAt K H p r ∧ r.w = .come ∧ WoOk r.w r.x ∧ Q (.bl true) H
theorem has_Come_fits (T : Tx K mg) : HasM P w K mg base (He.ga K "Come") "fits" 3 ["self"] (sp_Come_fits K) := by
  have g_nd := sc_Come_fits.nd
  refine T.m_Come_fits.has T.k_Come.c T.M_Come_fits sc_Come_fits (fun _ _ _ _ _ _ us hl => match us, hl with | [_], _ => rfl) sp1_len (fun cdv A outer s H vs Q E hr h => ?_)
  obtain ⟨a0, rfl, h⟩ := h
  obtain ⟨p, r, rfl, ⟨dx, x, hp, hx⟩, hw, ho, k⟩ := h
  obtain ⟨rw, ra, rb, rx⟩ := r
  cases (show rw = _ from hw)
  simp only at hx ho hp
  refine ⟨_, (pss_one (ps_ret (pe_callB call_isi (by rfl) T.b_isinstance (by decide +kernel) (pa_cons (pe_fld (pv 0) rfl) (pa_cons (pe_bltn (v := .ty "bool") (by rfl) T.b_bool (by decide +kernel) rfl) pa_nil))))), ?_⟩
  have hf := ruFl_worth ra rb x
  cases hx with
  | bl b => exact ⟨_, rfl, p, _, dx, _, _, rfl, hp, T.k_Come.c, T.n_Come_worth, hf, _, _, _, _, _, rfl, .ty _, .base (.bl b), kit_ty (r := true) (by decide +kernel), k⟩
  | non => exact ho.elim
  | int i => exact ho.elim
  | two e => exact ho.elim

theorem sc_Go_fits : FnScope ["self"] ["self"] (defScope cGo_fits) := ⟨rfl, rfl, rfl, by decide +kernel, rfl, by decide +kernel, by decide +kernel⟩

def sp_Go_fits (K : PySem.W.Frag) : Sp := sp1 fun a H Q => ∃ p r, a = .ref p ∧ RuAt K H p r ∧ r.w = .go ∧ WoOk r.w r.x ∧ Q (.bl true) H
theorem has_Go_fits (T : Tx K mg) : HasM P w K mg base (He.ga K "Go") "fits" 3 ["self"] (sp_Go_fits K) := by
  have g_nd := sc_Go_fits.nd
  refine T.m_Go_fits.has T.k_Go.c T.M_Go_fits sc_Go_fits (fun _ _ _ _ _ _ us hl => match us, hl with | [_], _ => rfl) sp1_len (fun cdv A outer s H vs Q E hr h => ?_)
  obtain ⟨a0, rfl, h⟩ := h
  obtain ⟨p, r, rfl, ⟨dx, x, hp, hx⟩, hw, ho, k⟩ := h
  obtain ⟨rw, ra, rb, rx⟩ := r
  cases (show rw = _ from hw)
  simp only at hx ho hp
  refine ⟨_, (pss_one (ps_ret (pe_callB call_isi (by rfl) T.b_isinstance (by decide +kernel) (pa_cons (pe_fld (pv 0) rfl) (pa_cons (pe_bltn (v := .ty "bool") (by rfl) T.b_bool (by decide +kernel) rfl) pa_nil))))), ?_⟩
  have hf := ruFl_worth ra rb x
  cases hx with
  | bl b => exact ⟨_, rfl, p, _, dx, _, _, rfl, hp, T.k_Go.c, T.n_Go_worth, hf, _, _, _, _, _, rfl, .ty _, .base (.bl b), kit_ty (r := true) (by decide +kernel), k⟩
  | non => exact ho.elim
  | int i => exact ho.elim
  | two e => exact ho.elim

theorem sc_Least_fits : FnScope ["self"] ["self"] (defScope cLeast_fits) := ⟨rfl, rfl, rfl, by decide +kernel, rfl, by decide +kernel, by decide +kernel⟩

def sp_Least_fits (K : PySem.W.Frag) : Sp := sp1 fun a H Q => ∃ p r, a = .ref p ∧ RuAt K H p r ∧ r.w = .least ∧ WoOk r.w r.x ∧ Q (.bl true) H
theorem has_Least_fits (T : Tx K mg) : HasM P w K mg base (He.ga K "Least") "fits" 3 ["self"] (sp_Least_fits K) := by
  have g_is_nights := has_is_nights (P := P) (w := w) (base := base) T
  have g_nd := sc_Least_fits.nd
  refine T.m_Least_fits.has T.k_Least.c T.M_Least_fits sc_Least_fits (fun _ _ _ _ _ _ us hl => match us, hl with | [_], _ => rfl) sp1_len (fun cdv A outer s H vs Q E hr h => ?_)
  obtain ⟨a0, rfl, h⟩ := h
  obtain ⟨p, r, rfl, ⟨dx, x, hp, hx⟩, hw, ho, k⟩ := h
  obtain ⟨rw, ra, rb, rx⟩ := r
  cases (show rw = _ from hw)
  simp only at hx ho hp
  refine ⟨_, (pss_one (ps_ret (pcall g_is_nights (hr.mono (by decide)) (by rfl) (pa_cons (pe_fld (pv 0) rfl) pa_nil)))), ?_⟩
  have hf := ruFl_worth ra rb x
  cases hx with
  | int i => exact ⟨_, rfl, p, _, dx, _, _, rfl, hp, T.k_Least.c, T.n_Least_worth, hf, _, rfl, i, rfl, ho.1, ho.2, k⟩
  | non => exact ho.elim
  | bl b => exact ho.elim
  | two e => exact ho.elim

theorem sc_Most_fits : FnScope ["self"] ["self"] (defScope cMost_fits) := ⟨rfl, rfl, rfl, by decide +kernel, rfl, by decide +kernel, by decide +kernel⟩

def sp_Most_fits (K : PySem.W.Frag) : Sp := sp1 fun a H Q => ∃ p r, a = .ref p ∧ RuAt K H p r ∧ r.w = .most ∧ WoOk r.w r.x ∧ Q (.bl true) H
theorem has_Most_fits (T : Tx K mg) : HasM P w K mg base (He.ga K "Most") "fits" 3 ["self"] (sp_Most_fits K) := by
  have g_is_nights := has_is_nights (P := P) (w := w) (base := base) T
  have g_nd := sc_Most_fits.nd
  refine T.m_Most_fits.has T.k_Most.c T.M_Most_fits sc_Most_fits (fun _ _ _ _ _ _ us hl => match us, hl with | [_], _ => rfl) sp1_len (fun cdv A outer s H vs Q E hr h => ?_)
  obtain ⟨a0, rfl, h⟩ := h
  obtain ⟨p, r, rfl, ⟨dx, x, hp, hx⟩, hw, ho, k⟩ := h
  obtain ⟨rw, ra, rb, rx⟩ := r
  cases (show rw = _ from hw)
  simp only at hx ho hp
  refine ⟨_, (pss_one (ps_ret (pcall g_is_nights (hr.mono (by decide)) (by rfl) (pa_cons (pe_fld (pv 0) rfl) pa_nil)))), ?_⟩
  have hf := ruFl_worth ra rb x
  cases hx with
  | int i => exact ⟨_, rfl, p, _, dx, _, _, rfl, hp, T.k_Most.c, T.n_Most_worth, hf, _, rfl, i, rfl, ho.1, ho.2, k⟩
  | non => exact ho.elim
  | bl b => exact ho.elim
  | two e => exact ho.elim

theorem sc_Deal_fits : FnScope ["self", "many", "free"] ["self"] (defScope cDeal_fits) := ⟨rfl, rfl, rfl, by decide +kernel, rfl, by decide +kernel, by decide +kernel⟩

def sp_Deal_fits (K : PySem.W.Frag) : Sp := sp1 fun a H Q => ∃ p r, a = .ref p ∧ RuAt K H p r ∧ r.w = .deal ∧ WoOk r.w r.x ∧ Q (.bl true) H
theorem has_Deal_fits (T : Tx K mg) : HasM P w K mg base (He.ga K "Deal") "fits" 3 ["self"] (sp_Deal_fits K) := by
  have g_is_nights := has_is_nights (P := P) (w := w) (base := base) T
  have g_is_whole := has_is_whole (P := P) (w := w) (base := base) T
  have g_nd := sc_Deal_fits.nd
  refine T.m_Deal_fits.has T.k_Deal.c T.M_Deal_fits sc_Deal_fits (fun _ _ _ _ _ _ us hl => match us, hl with | [_], _ => rfl) sp1_len (fun cdv A outer s H vs Q E hr h => ?_)
  obtain ⟨a0, rfl, h⟩ := h
  obtain ⟨p, r, rfl, ⟨dx, x, hp, hx⟩, hw, ho, k⟩ := h
  obtain ⟨rw, ra, rb, rx⟩ := r
  cases (show rw = _ from hw)
  simp only at hx ho hp
  refine ⟨_, (pss_cons (ps_if (pt_cmpR op_isN (pe_fld (pv 0) rfl) pe_non (nomark _)) (pss_one (ps_ret pe_bl)) pss_nil)
        (pss_cons (ps_if (PW.pt (pw_or (pt_not (pt_val (pe_callB call_isi (by rfl) T.b_isinstance (by decide +kernel) (pa_cons (pe_fld (pv 0) rfl) (pa_cons (pe_bltn (v := .ty "tuple") (by rfl) T.b_tuple (by decide +kernel) rfl) pa_nil))))) (pw_or1 (pt_cmpR op_ne (pe_callB clen (by rfl) T.b_len (by decide +kernel) (pa_cons (pe_fld (pv 0) rfl) pa_nil)) pe_int (nomark _))))) (pss_one (ps_ret pe_bl)) pss_nil)
        (pss_cons (ps_asg (pe_fld (pv 0) rfl) (pg_tup rfl (pgs_cons (pg_name (i := 1) g_nd rfl (by first | exact Or.inl rfl | exact Or.inr rfl)) (pgs_cons (pg_name (i := 2) g_nd rfl (by first | exact Or.inl rfl | exact Or.inr rfl)) pgs_nil))))
        (pss_one (ps_ret (pe_and (pcall g_is_nights (hr.mono (by decide)) (by rfl) (pa_cons (pv 1) pa_nil)) (pe_and (pcall g_is_whole (hr.mono (by decide)) (by rfl) (pa_cons (pv 2) pa_nil)) (pe_one (pe_chain op_le op_lt pe_int (pv 2) (pv 1)))))))))), ?_⟩
  have hf := ruFl_worth ra rb x
  cases hx with
  | non => exact ⟨_, rfl, p, _, dx, _, _, rfl, hp, T.k_Deal.c, T.n_Deal_worth, hf, rfl, _, rfl, iteTd rfl k⟩
  | @two q m f e =>
    refine ⟨_, rfl, p, _, dx, _, _, rfl, hp, T.k_Deal.c, T.n_Deal_worth, hf, rfl, _, rfl, iteFd (by simp) ?_⟩
    refine ⟨_, rfl, p, _, dx, _, _, rfl, hp, T.k_Deal.c, T.n_Deal_worth, hf, _, _, _, _, _, rfl, .ty _, .base (.tup e), kit_ty (r := true) (by decide +kernel), _, rfl, iteF ?_⟩
    refine ⟨_, rfl, p, _, dx, _, _, rfl, hp, T.k_Deal.c, T.n_Deal_worth, hf, q, _, rfl, .inr (SqT.of e), rfl, _, rfl, iteFn rfl ?_⟩
    refine ⟨_, rfl, p, _, dx, _, _, rfl, hp, T.k_Deal.c, T.n_Deal_worth, hf, q, _, rfl, SqT.of e, rfl, _, _, rfl, _, _, rfl, rfl, ?_⟩
    refine ⟨_, rfl, _, rfl, m, rfl, ho.1, ho.2.1, _, rfl, iteT ?_⟩
    refine ⟨_, rfl, _, rfl, f, rfl, _, rfl, iteT ?_⟩
    exact ⟨_, rfl, _, _, rfl, rfl, _, rfl, iteTd ho.2.2.1 ⟨_, rfl, _, _, rfl, rfl, qT (Q := Q) ho.2.2.2 k⟩⟩
  | int i => exact ho.elim
  | bl b => exact ho.elim

theorem sc_Fee_fits : FnScope ["self"] ["self"] (defScope cFee_fits) := ⟨rfl, rfl, rfl, by decide +kernel, rfl, by decide +kernel, by decide +kernel⟩

def sp_Fee_fits (K : PySem.W.Frag) : Sp := sp1 fun a H Q => ∃ p r, a = .ref p ∧ RuAt K H p r ∧ r.w = .fee ∧ WoOk r.w r.x ∧ Q (.bl true) H
theorem has_Fee_fits (T : Tx K mg) : HasM P w K mg base (He.ga K "Fee") "fits" 3 ["self"] (sp_Fee_fits K) := by
  have g_is_coins := has_is_coins (P := P) (w := w) (base := base) T
  have g_nd := sc_Fee_fits.nd
  refine T.m_Fee_fits.has T.k_Fee.c T.M_Fee_fits sc_Fee_fits (fun _ _ _ _ _ _ us hl => match us, hl with | [_], _ => rfl) sp1_len (fun cdv A outer s H vs Q E hr h => ?_)
  obtain ⟨a0, rfl, h⟩ := h
  obtain ⟨p, r, rfl, ⟨dx, x, hp, hx⟩, hw, ho, k⟩ := h
  obtain ⟨rw, ra, rb, rx⟩ := r
  cases (show rw = _ from hw)
  simp only at hx ho hp
  refine ⟨_, (pss_one (ps_ret (pcall g_is_coins (hr.mono (by decide)) (by rfl) (pa_cons (pe_fld (pv 0) rfl) pa_nil)))), ?_⟩
  have hf := ruFl_worth ra rb x
  cases hx with
  | int i => exact ⟨_, rfl, p, _, dx, _, _, rfl, hp, T.k_Fee.c, T.n_Fee_worth, hf, _, rfl, i, rfl, ho.1, ho.2, k⟩
  | non => exact ho.elim
  | bl b => exact ho.elim
  | two e => exact ho.elim

def sp_fits (K : PySem.W.Frag) (wd : Wd) : Sp := sp1 fun a H Q => ∃ p r, a = .ref p ∧ RuAt K H p r ∧ r.w = wd ∧ WoOk r.w r.x ∧ Q (.bl true) H
theorem has_fits (T : Tx K mg) (wd : Wd) : HasM P w K mg base (cA K wd) "fits" 3 ["self"] (sp_fits K wd) := by
  cases wd
  · exact has_Price_fits T
  · exact has_Come_fits T
  · exact has_Go_fits T
  · exact has_Least_fits T
  · exact has_Most_fits T
  · exact has_Deal_fits T
  · exact has_Fee_fits T
end
end Stp
namespace Stp
open PySem PySem.Spec PyProof.Rows L2
section
variable {P : Program} {w : World} {K : PySem.W.Frag} {mg : Str → Option Value} {base : Heap}

theorem sc_Rule_tells : FnScope ["self", "day"] ["self", "day"] (defScope cRule_tells) := ⟨rfl, rfl, rfl, by decide +kernel, rfl, by decide +kernel, by decide +kernel⟩

def sp_Rule_tells (K : PySem.W.Frag) (wd : Wd) : Sp := sp2 fun s d H Q => ∃ p r i, s = .ref p ∧ d = .int i ∧ RuAt K H p r ∧ r.w = wd ∧ Q (.bl (r.has i)) H
theorem has_tells (T : Tx K mg) (wd : Wd) : HasM P w K mg base (cA K wd) "tells" 1 ["self", "day"] (sp_Rule_tells K wd) := by
  have g_nd := sc_Rule_tells.nd
  refine (T.m_tells wd).has (T.cl wd) (T.M_tells wd) sc_Rule_tells (fun _ _ _ _ _ _ us hl => match us, hl with | [_, _], _ => rfl) sp2_len (fun cdv A outer s H vs Q E hr h => ?_)
  obtain ⟨a0, a1, rfl, h⟩ := h
  obtain ⟨p, r, i, rfl, rfl, ⟨dx, x, hp, hx⟩, rfl, k⟩ := h
  refine ⟨_, (pss_one (ps_ret (pe_chain op_le op_le (pe_fld (pv 0) rfl) (pv 1) (pe_fld (pv 0) rfl)))), ?_⟩
  refine ⟨_, rfl, p, _, dx, _, _, rfl, hp, T.cl _, T.n_first _, ruFl_first _ _ _, ?_⟩
  refine ⟨_, rfl, _, _, rfl, rfl, _, rfl, ?_⟩
  by_cases h1 : r.a ≤ i
  · refine iteTd h1 ⟨_, rfl, p, _, dx, _, _, rfl, hp, T.cl _, T.n_last _, ruFl_last _ _ _, _, _, rfl, rfl, ?_⟩
    have e : r.has i = decide (i ≤ r.b) := by unfold Rl.has; rw [decide_eq_true h1]; rfl
    rw [e] at k
    exact k
  · refine iteFd h1 ?_
    have e : r.has i = false := by unfold Rl.has; rw [decide_eq_false h1]; rfl
    rw [e] at k
    exact k

theorem sc_Rule_told : FnScope ["self"] ["self"] (defScope cRule_told) := ⟨rfl, rfl, rfl, by decide +kernel, rfl, by decide +kernel, by decide +kernel⟩

def sp_Rule_told (K : PySem.W.Frag) (wd : Wd) : Sp := sp1 fun s H Q => ∃ p r, s = .ref p ∧ RuAt K H p r ∧ r.w = wd ∧ ∀ q H', Same H H' → H q = none → TuAt H' (.ref q) r → Q (.ref q) H'
theorem has_told (T : Tx K mg) (wd : Wd) : HasM P w K mg base (cA K wd) "told" 2 ["self"] (sp_Rule_told K wd) := by
  have m_word := has_word (P := P) (w := w) (base := base) T wd
  have g_nd := sc_Rule_told.nd
  refine (T.m_told wd).has (T.cl wd) (T.M_told wd) sc_Rule_told (fun _ _ _ _ _ _ us hl => match us, hl with | [_], _ => rfl) sp1_len (fun cdv A outer s H vs Q E hr h => ?_)
  obtain ⟨a0, rfl, h⟩ := h
  obtain ⟨p, r, rfl, ⟨dx, x, hp, hx⟩, rfl, k⟩ := h
  refine ⟨_, (pss_one (ps_ret (pe_tup (pa_cons (pmeth0 (pv 0) m_word (hr.mono (by decide))) (pa_cons (pe_fld (pv 0) rfl) (pa_cons (pe_fld (pv 0) rfl) (pa_cons (pe_fld (pv 0) rfl) pa_nil))))))), ?_⟩
  refine ⟨_, rfl, p, dx, _, rfl, hp, ruFl_word _ _ _, _, rfl, ?_⟩
  refine ⟨_, rfl, p, _, dx, _, _, rfl, hp, T.cl _, T.n_first _, ruFl_first _ _ _, ?_⟩
  refine ⟨_, rfl, p, _, dx, _, _, rfl, hp, T.cl _, T.n_last _, ruFl_last _ _ _, ?_⟩
  refine ⟨_, rfl, p, _, dx, _, _, rfl, hp, T.cl _, T.n_worth _, ruFl_worth _ _ _, ?_⟩
  refine ⟨by show 4 ≤ sizeLine; decide, fun q hq => ?_⟩
  exact k q _ (snewR hq) hq ⟨q, x, rfl, upd_same, hx.mono (snewR hq)⟩

theorem sc_made : FnScope ["word", "first", "last", "worth"] ["word", "first", "last", "worth"] (defScope sMade) := ⟨rfl, rfl, rfl, by decide +kernel, rfl, by decide +kernel, by decide +kernel⟩

def sp_made (K : PySem.W.Frag) : Sp := sp4 fun a b c x H Q => ∃ wd i j wo, a = .str (Wd.s wd) ∧ b = .int i ∧ c = .int j ∧ WoAt H x wo ∧ ∀ v H', Same H H' → H v = none → RuAt K H' v ⟨wd, i, j, wo⟩ → Q (.ref v) H'
theorem has_made (T : Tx K mg) : Has P w K mg base "made" 3 ["word", "first", "last", "worth"] (sp_made K) := by
  have c_Price := has_Rule_init (P := P) (w := w) (base := base) T .price
  have c_Come := has_Rule_init (P := P) (w := w) (base := base) T .come
  have c_Go := has_Rule_init (P := P) (w := w) (base := base) T .go
  have c_Least := has_Rule_init (P := P) (w := w) (base := base) T .least
  have c_Most := has_Rule_init (P := P) (w := w) (base := base) T .most
  have c_Deal := has_Rule_init (P := P) (w := w) (base := base) T .deal
  have c_Fee := has_Rule_init (P := P) (w := w) (base := base) T .fee
  have g_nd := sc_made.nd
  refine T.d_made.has sc_made (fun _ _ _ _ _ _ us hl => match us, hl with | [_, _, _, _], _ => rfl) sp4_len (fun cdv A outer s H vs Q E hr h => ?_)
  obtain ⟨a0, a1, a2, a3, rfl, h⟩ := h
  obtain ⟨wd, i, j, wo, rfl, rfl, rfl, hx, k⟩ := h
  refine ⟨_, (pss_cons (ps_if (pt_cmpR op_eq (pv 0) pe_str (nomark _)) (pss_one (ps_ret (pmake c_Price (hr.mono (by decide)) (by rfl) (pa_cons (pv 1) (pa_cons (pv 2) (pa_cons (pv 3) pa_nil)))))) pss_nil)
        (pss_cons (ps_if (pt_cmpR op_eq (pv 0) pe_str (nomark _)) (pss_one (ps_ret (pmake c_Come (hr.mono (by decide)) (by rfl) (pa_cons (pv 1) (pa_cons (pv 2) (pa_cons (pv 3) pa_nil)))))) pss_nil)
        (pss_cons (ps_if (pt_cmpR op_eq (pv 0) pe_str (nomark _)) (pss_one (ps_ret (pmake c_Go (hr.mono (by decide)) (by rfl) (pa_cons (pv 1) (pa_cons (pv 2) (pa_cons (pv 3) pa_nil)))))) pss_nil)
        (pss_cons (ps_if (pt_cmpR op_eq (pv 0) pe_str (nomark _)) (pss_one (ps_ret (pmake c_Least (hr.mono (by decide)) (by rfl) (pa_cons (pv 1) (pa_cons (pv 2) (pa_cons (pv 3) pa_nil)))))) pss_nil)
        (pss_cons (ps_if (pt_cmpR op_eq (pv 0) pe_str (nomark _)) (pss_one (ps_ret (pmake c_Most (hr.mono (by decide)) (by rfl) (pa_cons (pv 1) (pa_cons (pv 2) (pa_cons (pv 3) pa_nil)))))) pss_nil)
        (pss_cons (ps_if (pt_cmpR op_eq (pv 0) pe_str (nomark _)) (pss_one (ps_ret (pmake c_Deal (hr.mono (by decide)) (by rfl) (pa_cons (pv 1) (pa_cons (pv 2) (pa_cons (pv 3) pa_nil)))))) pss_nil)
        (pss_one (ps_ret (pmake c_Fee (hr.mono (by decide)) (by rfl) (pa_cons (pv 1) (pa_cons (pv 2) (pa_cons (pv 3) pa_nil)))))))))))), ?_⟩
  have mk : ∀ (wd : Wd), (∀ v H', Same H H' → H v = none → RuAt K H' v ⟨wd, i, j, wo⟩ → Q (.ref v) H') → ∀ q dx, H q = none → H dx = none → dx ≠ q →
      sp_Rule___init (cA K wd) (.ref q :: ([.int i, .int j, a3] ++ [])) (upd (upd H dx (.own q)) q (.ins (cA K wd) dx [])) (fun v H2 => v = .non ∧ Q (.ref q) H2) E0 := by
    intro wd k q dx hq hdx ne
    refine ⟨_, _, _, _, rfl, q, dx, i, j, rfl, rfl, rfl, upd_same, fun H' h1 h2 => ⟨rfl, ?_⟩⟩
    have s1 : Same H H' := fun b u e => by
      rw [h2 b (ne_of_none e hq), upd_ne (ne_of_none e hq), upd_ne (ne_of_none e hdx)]
      exact e
    exact k q H' s1 hq ⟨dx, a3, h1, hx.mono s1⟩
  cases wd
  · refine ⟨_, rfl, rfl, _, rfl, iteTd rfl ?_⟩
    exact ⟨_, rfl, _, rfl, _, rfl, mk .price k⟩
  · refine ⟨_, rfl, rfl, _, rfl, iteFd (by decide +kernel) ?_⟩
    refine ⟨_, rfl, rfl, _, rfl, iteTd rfl ?_⟩
    exact ⟨_, rfl, _, rfl, _, rfl, mk .come k⟩
  · refine ⟨_, rfl, rfl, _, rfl, iteFd (by decide +kernel) ?_⟩
    refine ⟨_, rfl, rfl, _, rfl, iteFd (by decide +kernel) ?_⟩
    refine ⟨_, rfl, rfl, _, rfl, iteTd rfl ?_⟩
    exact ⟨_, rfl, _, rfl, _, rfl, mk .go k⟩
  · refine ⟨_, rfl, rfl, _, rfl, iteFd (by decide +kernel) ?_⟩
    refine ⟨_, rfl, rfl, _, rfl, iteFd (by decide +kernel) ?_⟩
    refine ⟨_, rfl, rfl, _, rfl, iteFd (by decide +kernel) ?_⟩
    refine ⟨_, rfl, rfl, _, rfl, iteTd rfl ?_⟩
    exact ⟨_, rfl, _, rfl, _, rfl, mk .least k⟩
  · refine ⟨_, rfl, rfl, _, rfl, iteFd (by decide +kernel) ?_⟩
    refine ⟨_, rfl, rfl, _, rfl, iteFd (by decide +kernel) ?_⟩
    refine ⟨_, rfl, rfl, _, rfl, iteFd (by decide +kernel) ?_⟩
    refine ⟨_, rfl, rfl, _, rfl, iteFd (by decide +kernel) ?_⟩
    refine ⟨_, rfl, rfl, _, rfl, iteTd rfl ?_⟩
    exact ⟨_, rfl, _, rfl, _, rfl, mk .most k⟩
  · refine ⟨_, rfl, rfl, _, rfl, iteFd (by decide +kernel) ?_⟩
    refine ⟨_, rfl, rfl, _, rfl, iteFd (by decide +kernel) ?_⟩
    refine ⟨_, rfl, rfl, _, rfl, iteFd (by decide +kernel) ?_⟩
    refine ⟨_, rfl, rfl, _, rfl, iteFd (by decide +kernel) ?_⟩
    refine ⟨_, rfl, rfl, _, rfl, iteFd (by decide +kernel) ?_⟩
    refine ⟨_, rfl, rfl, _, rfl, iteTd rfl ?_⟩
    exact ⟨_, rfl, _, rfl, _, rfl, mk .deal k⟩
  · refine ⟨_, rfl, rfl, _, rfl, iteFd (by decide +kernel) ?_⟩
    refine ⟨_, rfl, rfl, _, rfl, iteFd (by decide +kernel) ?_⟩
    refine ⟨_, rfl, rfl, _, rfl, iteFd (by decide +kernel) ?_⟩
    refine ⟨_, rfl, rfl, _, rfl, iteFd (by decide +kernel) ?_⟩
    refine ⟨_, rfl, rfl, _, rfl, iteFd (by decide +kernel) ?_⟩
    refine ⟨_, rfl, rfl, _, rfl, iteFd (by decide +kernel) ?_⟩
    exact ⟨_, rfl, _, rfl, _, rfl, mk .fee k⟩

def usV : Wd → V
  | .price => .non | .come => .bl true | .go => .bl true | .least => .int 1 | .most => .int 14 | .deal => .non | .fee => .int 0
theorem usV_at (H : Hp) (wd : Wd) : WoAt H (usV wd) (usualW wd) := by cases wd <;> constructor
theorem sc_usual : FnScope ["word"] ["word"] (defScope sUsual) := ⟨rfl, rfl, rfl, by decide +kernel, rfl, by decide +kernel, by decide +kernel⟩

def sp_usual : Sp := sp1 fun a H Q => ∃ wd, a = .str (Wd.s wd) ∧ Q (usV wd) H
theorem has_usual (T : Tx K mg) : Has P w K mg base "usual" 1 ["word"] (sp_usual) := by
  have g_nd := sc_usual.nd
  refine T.d_usual.has sc_usual (fun _ _ _ _ _ _ us hl => match us, hl with | [_], _ => rfl) sp1_len (fun cdv A outer s H vs Q E hr h => ?_)
  obtain ⟨a0, rfl, h⟩ := h
  obtain ⟨wd, rfl, k⟩ := h
  refine ⟨_, (pss_cons (ps_if (PW.pt (pw_or (pt_cmpR op_eq (pv 0) pe_str (nomark _)) (pw_or1 (pt_cmpR op_eq (pv 0) pe_str (nomark _))))) (pss_one (ps_ret pe_bl)) pss_nil)
        (pss_cons (ps_if (pt_cmpR op_eq (pv 0) pe_str (nomark _)) (pss_one (ps_ret pe_int)) pss_nil)
        (pss_cons (ps_if (pt_cmpR op_eq (pv 0) pe_str (nomark _)) (pss_one (ps_ret (pe_gint (by rfl) T.k_MOST_NIGHTS))) pss_nil)
        (pss_cons (ps_if (pt_cmpR op_eq (pv 0) pe_str (nomark _)) (pss_one (ps_ret pe_int)) pss_nil)
        (pss_one (ps_ret pe_non)))))), ?_⟩
  cases wd
  · refine ⟨_, rfl, rfl, _, rfl, iteFd (by decide +kernel) ⟨_, rfl, rfl, _, rfl, iteFd (by decide +kernel) ?_⟩⟩
    exact ⟨_, rfl, rfl, _, rfl, iteFd (by decide +kernel) ⟨_, rfl, rfl, _, rfl, iteFd (by decide +kernel) ⟨_, rfl, rfl, _, rfl, iteFd (by decide +kernel) k⟩⟩⟩
  · exact ⟨_, rfl, rfl, _, rfl, iteTd rfl (iteT k)⟩
  · exact ⟨_, rfl, rfl, _, rfl, iteFd (by decide +kernel) ⟨_, rfl, rfl, _, rfl, iteTd rfl k⟩⟩
  · refine ⟨_, rfl, rfl, _, rfl, iteFd (by decide +kernel) ⟨_, rfl, rfl, _, rfl, iteFd (by decide +kernel) ?_⟩⟩
    exact ⟨_, rfl, rfl, _, rfl, iteTd rfl k⟩
  · refine ⟨_, rfl, rfl, _, rfl, iteFd (by decide +kernel) ⟨_, rfl, rfl, _, rfl, iteFd (by decide +kernel) ?_⟩⟩
    exact ⟨_, rfl, rfl, _, rfl, iteFd (by decide +kernel) ⟨_, rfl, rfl, _, rfl, iteTd rfl k⟩⟩
  · refine ⟨_, rfl, rfl, _, rfl, iteFd (by decide +kernel) ⟨_, rfl, rfl, _, rfl, iteFd (by decide +kernel) ?_⟩⟩
    exact ⟨_, rfl, rfl, _, rfl, iteFd (by decide +kernel) ⟨_, rfl, rfl, _, rfl, iteFd (by decide +kernel) ⟨_, rfl, rfl, _, rfl, iteFd (by decide +kernel) k⟩⟩⟩
  · refine ⟨_, rfl, rfl, _, rfl, iteFd (by decide +kernel) ⟨_, rfl, rfl, _, rfl, iteFd (by decide +kernel) ?_⟩⟩
    exact ⟨_, rfl, rfl, _, rfl, iteFd (by decide +kernel) ⟨_, rfl, rfl, _, rfl, iteFd (by decide +kernel) ⟨_, rfl, rfl, _, rfl, iteTd rfl k⟩⟩⟩

theorem inWords (wd : Wd) : inV (.str wd.s) [.str "price", .str "come", .str "go", .str "least", .str "most", .str "deal", .str "fee"] = true := by
  cases wd <;> decide +kernel

theorem sc_rule_of : FnScope ["thing", "rule"] ["thing"] (defScope sRuleOf) := ⟨rfl, rfl, rfl, by decide +kernel, rfl, by decide +kernel, by decide +kernel⟩

def sp_rule_of (K : PySem.W.Frag) : Sp := sp1 fun a H Q => ∃ r, TuAt H a r ∧ r.Ok ∧ ∀ v H', Same H H' → H v = none → RuAt K H' v r → Q (.ref v) H'
theorem has_rule_of (T : Tx K mg) : Has P w K mg base "rule_of" 5 ["thing"] (sp_rule_of K) := by
  have g_is_stretch := has_is_stretch (P := P) (w := w) (base := base) T
  have g_made := has_made (P := P) (w := w) (base := base) T
  have m_fits := fun wd => has_fits (P := P) (w := w) (base := base) T wd
  have g_nd := sc_rule_of.nd
  refine T.d_rule_of.has sc_rule_of (fun _ _ _ _ _ _ us hl => match us, hl with | [_], _ => rfl) sp1_len (fun cdv A outer s H vs Q E hr h => ?_)
  obtain ⟨a0, rfl, h⟩ := h
  obtain ⟨r, ⟨p, x, rfl, hp, hx⟩, ok, k⟩ := h
  refine ⟨_, (pss_cons (ps_if (PW.pt (pw_or (pt_not (pt_val (pe_callB call_isi (by rfl) T.b_isinstance (by decide +kernel) (pa_cons (pv 0) (pa_cons (pe_bltn (v := .ty "tuple") (by rfl) T.b_tuple (by decide +kernel) rfl) pa_nil))))) (pw_or (pt_cmpR op_ne (pe_callB clen (by rfl) T.b_len (by decide +kernel) (pa_cons (pv 0) pa_nil)) pe_int (nomark _)) (pw_or (pt_not (pt_val (pe_callB call_isi (by rfl) T.b_isinstance (by decide +kernel) (pa_cons (pe_ix ix_tup (pv 0) pe_int (fun _ _ => rfl)) (pa_cons (pe_bltn (v := .ty "str") (by rfl) T.b_str (by decide +kernel) rfl) pa_nil))))) (pw_or1 (pt_cmpR op_notIn_seq (pe_ix ix_tup (pv 0) pe_int (fun _ _ => rfl)) (pe_glob (v := .ref (He.ga K "WORDS")) (by rfl) T.k_WORDS rfl) (by rfl))))))) (pss_one (ps_ret pe_non)) pss_nil)
        (pss_cons (ps_if (pt_not (pt_val (pcall g_is_stretch (hr.mono (by decide)) (by rfl) (pa_cons (pe_tup (pa_cons (pe_ix ix_tup (pv 0) pe_int (fun _ _ => rfl)) (pa_cons (pe_ix ix_tup (pv 0) pe_int (fun _ _ => rfl)) pa_nil))) pa_nil)))) (pss_one (ps_ret pe_non)) pss_nil)
        (pss_cons (ps_set (i := 1) g_nd rfl (by first | exact Or.inl rfl | exact Or.inr rfl) (pcall g_made (hr.mono (by decide)) (by rfl) (pa_cons (pe_ix ix_tup (pv 0) pe_int (fun _ _ => rfl)) (pa_cons (pe_ix ix_tup (pv 0) pe_int (fun _ _ => rfl)) (pa_cons (pe_ix ix_tup (pv 0) pe_int (fun _ _ => rfl)) (pa_cons (pe_ix ix_tup (pv 0) pe_int (fun _ _ => rfl)) pa_nil))))))
        (pss_cons (ps_if (pt_not (pt_val (pmeth0 (pv 1) (m_fits r.w) (hr.mono (by decide))))) (pss_one (ps_ret pe_non)) pss_nil)
        (pss_one (ps_ret (pv 1))))))), ?_⟩
  refine ⟨_, rfl, _, _, _, _, _, rfl, .ty _, .base (.tup hp), kit_ty (r := true) (by decide +kernel), _, rfl, iteF ?_⟩
  refine ⟨_, rfl, p, _, rfl, .inr (SqT.of hp), rfl, _, rfl, iteFn rfl ?_⟩
  refine ⟨_, rfl, p, _, _, _, rfl, rfl, SqT.of hp, rfl, _, _, _, _, _, rfl, .ty _, .base (.str _), kit_ty (r := true) (by decide +kernel), _, rfl, iteF ?_⟩
  refine ⟨_, rfl, p, _, _, _, rfl, rfl, SqT.of hp, rfl, _, _, rfl, .inr (T.words H), rfl, rfl, _, rfl, ?_⟩
  rw [inWords]
  refine iteF ?_
  refine ⟨_, rfl, p, _, _, _, rfl, rfl, SqT.of hp, rfl, _, rfl, p, _, _, _, rfl, rfl, SqT.of hp, rfl, by show 2 ≤ sizeLine; decide, fun q hq => ?_⟩
  have s1 : Same H (upd H q (.tup [.int r.a, .int r.b])) := snewR hq
  have hp1 := s1 _ _ hp
  refine ⟨_, rfl, q, r.a, r.b, rfl, upd_same, ok.lo, ok.le, ok.hi, _, rfl, iteF ?_⟩
  refine ⟨_, rfl, p, _, _, _, rfl, rfl, SqT.of hp1, rfl, _, rfl, p, _, _, _, rfl, rfl, SqT.of hp1, rfl, _, rfl, p, _, _, _, rfl, rfl, SqT.of hp1, rfl, _, rfl, p, _, _, _, rfl, rfl, SqT.of hp1, rfl, ?_⟩
  refine ⟨_, _, _, _, rfl, r.w, r.a, r.b, r.x, rfl, rfl, rfl, hx.mono s1, fun v H' s2 hv hr' => ?_⟩
  have hv0 : H v = none := s1.free hv
  obtain ⟨dx, y, h1, h2⟩ := id hr'
  refine ⟨_, rfl, v, dx, _, rfl, h1, ruFl_fits _ _ _, _, rfl, v, _, rfl, hr', rfl, ok.wo, _, rfl, iteF ?_⟩
  exact ⟨_, rfl, k v H' (s1.trans s2) hv0 hr'⟩

end
end Stp
namespace Stp
open PySem PySem.Spec PyProof.Rows L2
/-- tuples stay -/
def KT (H H' : Hp) : Prop := ∀ b xs, H b = some (.tup xs) → H' b = some (.tup xs)
/-- instances stay -/
def KI (H H' : Hp) : Prop := ∀ b C dx fs, H b = some (.ins C dx fs) → H' b = some (.ins C dx fs)
theorem KT.of {H H' : Hp} (s : Same H H') : KT H H' := fun b xs h => s _ _ h
theorem KI.of {H H' : Hp} (s : Same H H') : KI H H' := fun b C dx fs h => s _ _ h
theorem KT.trans {H H1 H2 : Hp} (a : KT H H1) (b : KT H1 H2) : KT H H2 := fun c xs h => b c xs (a c xs h)
theorem KI.trans {H H1 H2 : Hp} (a : KI H H1) (b : KI H1 H2) : KI H H2 := fun c C dx fs h => b c C dx fs (a c C dx fs h)
theorem KT.lst {H : Hp} {D : Addr} {xs ys : List V} (h : H D = some (.lst xs)) : KT H (upd H D (.lst ys)) := fun b zs e => by
  rw [upd_ne (ne_of e h (by intro z; cases z))]
  exact e
theorem KI.lst {H : Hp} {D : Addr} {xs ys : List V} (h : H D = some (.lst xs)) : KI H (upd H D (.lst ys)) := fun b _ _ _ e => by
  rw [upd_ne (ne_of e h (by intro z; cases z))]
  exact e
theorem KT.dct {H : Hp} {D : Addr} {xs ys : List (Key × V)} (h : H D = some (.dK xs)) : KT H (upd H D (.dK ys)) := fun b zs e => by
  rw [upd_ne (ne_of e h (by intro z; cases z))]
  exact e
theorem KI.dct {H : Hp} {D : Addr} {xs ys : List (Key × V)} (h : H D = some (.dK xs)) : KI H (upd H D (.dK ys)) := fun b _ _ _ e => by
  rw [upd_ne (ne_of e h (by intro z; cases z))]
  exact e
theorem WoAt.kt {H H' : Hp} (s : KT H H') {v : V} {x : Wo} (h : WoAt H v x) : WoAt H' v x := by
  cases h with
  | non => exact .non
  | int i => exact .int i
  | bl b => exact .bl b
  | two h => exact .two (s _ _ h)
theorem TuAt.kt {H H' : Hp} (s : KT H H') {v : V} {r : Rl} : TuAt H v r → TuAt H' v r := fun ⟨p, x, e, h, k⟩ => ⟨p, x, e, s _ _ h, k.kt s⟩
theorem RuAt.kt {K : PySem.W.Frag} {H H' : Hp} (s : KT H H') (i : KI H H') {a : Addr} {r : Rl} : RuAt K H a r → RuAt K H' a r := fun ⟨dx, x, h, k⟩ => ⟨dx, x, i _ _ _ _ h, k.kt s⟩
theorem find_at {α : Type} {f : α → Bool} : ∀ {l : List α} {i : Nat} {x : α}, l[i]? = some x → f x = true → (∀ (j : Nat) (y : α), j < i → l[j]? = some y → f y = false) → l.find? f = some x
  | [], _, _, h, _, _ => by simp at h
  | a :: r, 0, x, h, hx, _ => by
    have e : a = x := Option.some.inj h
    subst e
    rw [List.find?_cons, hx]
  | a :: r, i + 1, x, h, hx, hb => by
    rw [List.find?_cons, hb 0 a (Nat.zero_lt_succ _) rfl]
    exact find_at (i := i) h hx fun j y hj e => hb (j + 1) y (Nat.succ_lt_succ hj) e
theorem find_no {α : Type} {f : α → Bool} : ∀ {l : List α}, (∀ (j : Nat) (y : α), l[j]? = some y → f y = false) → l.find? f = none
  | [], _ => rfl
  | a :: r, hb => by
    rw [List.find?_cons, hb 0 a rfl]
    exact find_no fun j y e => hb (j + 1) y e
/-- for i, x in enumerate(xs) -/
theorem for_enum {K : PySem.W.Frag} {a : Addr} {xs : List V} {g : TG} {tb : TS} {D : Ends} {σ : L2.St} {H : Hp} (Pv : Nat → L2.St → Hp → Prop) (h0 : Pv 0 σ H) (hl : ∀ i σ H, i ≤ xs.length → Pv i σ H → SqL K H a xs)
    (hs : ∀ (i : Nat) (x : V) (T : Addr) (σ : L2.St) (H : Hp), xs[i]? = some x → Pv i σ H → H T = none → g (.ref T) σ (upd H T (.tup [.int (i : Nat), x])) fun σ2 H2 => tb { D with nx := Pv (i + 1), ct := Pv (i + 1), bk := D.nx } σ2 H2) (hd : ∀ σ H, Pv xs.length σ H → D.nx σ H) :
    ∃ W : Nat → Nat → L2.St → Hp → Prop, (∃ m, W 0 m σ H) ∧ ∀ i m σ H, W i m σ H →
      ((Ite K a).stop i H ∧ D.nx σ H) ∨ ((Ite K a).go i H ∧ ∃ N : L2.St → Hp → Prop, (∀ σ' H', N σ' H' → ∃ m', m' < m ∧ W (i + 1) m' σ' H') ∧ ∀ x H', (Ite K a).yld i H x H' → g x σ H' fun σ2 H2 => tb { D with nx := N, ct := N, bk := D.nx } σ2 H2) := by
  refine ⟨fun i m σ H => m = xs.length - i ∧ i ≤ xs.length ∧ Pv i σ H, ⟨xs.length, rfl, Nat.zero_le _, h0⟩, ?_⟩
  rintro i m σ H ⟨rfl, hi, p⟩
  have q := hl i σ H hi p
  by_cases hlt : i < xs.length
  · have hx : xs[i]? = some xs[i] := List.getElem?_eq_getElem hlt
    refine .inr ⟨⟨xs, _, q, hx⟩, Pv (i + 1), fun σ' H' p' => ⟨xs.length - (i + 1), by omega, rfl, hlt, p'⟩, fun v H' y => ?_⟩
    obtain ⟨T, x, rfl, hT, rfl, f⟩ := y
    exact hs i x T σ H (f xs q) p hT
  · have e : i = xs.length := by omega
    subst e
    exact .inl ⟨⟨xs, q, Nat.le_refl _⟩, hd σ H p⟩
theorem newer_snoc (ps : List (Addr × Rl)) (q : Addr × Rl) (w : Wd) : newer (ps ++ [q]) w = if q.2.w = w then q :: newer ps w else newer ps w := by
  unfold newer
  rw [List.filter_append, List.reverse_append]
  by_cases e : q.2.w = w
  · rw [if_pos e, List.filter_cons, if_pos (by simp [e])]
    rfl
  · rw [if_neg e, List.filter_cons, if_neg (by simp [e])]
    rfl
theorem newer_len (ps : List (Addr × Rl)) (w : Wd) : (newer ps w).length ≤ ps.length := by
  unfold newer
  rw [List.length_reverse]
  exact List.length_filter_le _ _
end Stp
namespace Stp
open PySem PySem.Spec PyProof.Rows L2
section
variable {P : Program} {w : World} {K : PySem.W.Frag} {mg : Str → Option Value} {base : Heap}

theorem sc_Book_tells_of : FnScope ["self", "word", "day", "rule"] ["self", "word", "day"] (defScope cBook_tells_of) := ⟨rfl, rfl, rfl, by decide +kernel, rfl, by decide +kernel, by decide +kernel⟩

def sp_Book_tells_of (K : PySem.W.Frag) : Sp := sp3 fun s wv dv H Q => ∃ b wd d rs, s = .ref b ∧ wv = .str (Wd.s wd) ∧ dv = .int d ∧ BkAt K H b rs ∧ ∀ v H', Same H H' → WoAt H' v (tel rs wd d) → Q v H'
theorem has_tells_of (T : Tx K mg) : HasM P w K mg base (He.ga K "Book") "tells_of" 2 ["self", "word", "day"] (sp_Book_tells_of K) := by
  have g_usual := has_usual (P := P) (w := w) (base := base) T
  have m_tells := has_tells (P := P) (w := w) (base := base) T
  have g_nd := sc_Book_tells_of.nd
  refine T.m_Book_tells_of.has T.k_Book.c T.M_Book_tells_of sc_Book_tells_of (fun _ _ _ _ _ _ us hl => match us, hl with | [_, _, _], _ => rfl) sp3_len (fun cdv A outer s H vs Q E hr h => ?_)
  obtain ⟨a0, a1, a2, rfl, h⟩ := h
  obtain ⟨b, wd, d, rs, rfl, rfl, rfl, ⟨⟨dx, kp, nw, kvs, ps, hb, hk, hn, hat, hru, rfl⟩, hok⟩, k⟩ := h
  refine ⟨_, (pss_cons (ps_for PassesOwn.never rfl (pi_list (pe_dget2 (hu_of hr) (pe_fld (pv 0) rfl) (pv 1) (pe_lst pa_nil) ⟨rfl, rfl, rfl, rfl⟩)) (pg_name (i := 3) g_nd rfl (by first | exact Or.inl rfl | exact Or.inr rfl)) (pss_one (ps_if (pt_val (pmeth (pv 3) (m_tells wd) (hr.mono (by decide)) (pa_cons (pv 2) pa_nil))) (pss_one (ps_ret (pe_fld (pv 3) rfl))) pss_nil)))
        (pss_one (ps_ret (pcall g_usual (hr.mono (by decide)) (by rfl) (pa_cons (pv 1) pa_nil))))), ?_⟩
  refine ⟨_, rfl, b, _, dx, _, _, rfl, hb, T.k_Book.c, T.n_Book_newest, bkFl_newest _ _, nw, rfl, .inl ⟨kvs, .inl hn⟩, _, rfl, Nat.zero_le _, fun D hD => ?_⟩
  have s1 : Same H (upd H D (.lst [])) := snewR hD
  refine ⟨_, DGet.k (k := Sum.inr wd.s) (s1 _ _ hn), ?_⟩
  have go : ∃ l, (valV kvs (Sum.inr wd.s : Key)).getD (.ref D) = .ref l ∧ (upd H D (.lst [])) l = some (.lst (refs (newer ps wd))) := by
    rcases hat wd with ⟨h1, h2⟩ | ⟨l, h1, h2⟩
    · refine ⟨D, by rw [h1]; rfl, ?_⟩
      rw [upd_same, h2]
      rfl
    · exact ⟨l, by rw [h1]; rfl, s1 _ _ h2⟩
  obtain ⟨l, e1, e2⟩ := go
  refine ⟨l, e1, ⟨_, SqL.of e2⟩, for_list (K := K) (a := l) (xs := refs (newer ps wd)) (fun i σ Hc => (∃ v3, σ = [some (.ref b), some (.str wd.s), some (.int d), v3]) ∧ Hc = upd H D (.lst []) ∧ ∀ (j : Nat) (y : Addr × Rl), j < i → (newer ps wd)[j]? = some y → y.2.has d = false)
    ⟨⟨none, rfl⟩, rfl, fun j y hj => absurd hj (Nat.not_lt_zero _)⟩ (fun i σ Hc _ ⟨_, e, _⟩ => by rw [e]; exact SqL.of e2) ?_ ?_⟩
  · rintro i x σ Hc hx ⟨⟨v3, rfl⟩, rfl, hb4⟩
    obtain ⟨y, hy, rfl⟩ : ∃ y, (newer ps wd)[i]? = some y ∧ x = V.ref y.1 := by
      unfold refs at hx
      rw [List.getElem?_map] at hx
      cases e : (newer ps wd)[i]? with
      | none => rw [e] at hx; cases hx
      | some y => rw [e] at hx; exact ⟨y, rfl, (Option.some.inj hx).symm⟩
    have my := List.mem_filter.mp (List.mem_reverse.mp (List.mem_of_getElem? hy))
    have hw : y.2.w = wd := of_decide_eq_true my.2
    have ry := (hru y my.1).mono s1
    obtain ⟨dy, xy, hy1, hy2⟩ := id ry
    refine ⟨_, rfl, y.1, dy, _, rfl, (by rw [← hw]; exact hy1), ruFl_tells _ _ _, _, rfl, _, _, rfl, y.1, y.2, d, rfl, rfl, ry, hw, _, rfl, ?_⟩
    have et : y.2.has d = true → tel (ps.map (·.2)) wd d = y.2.x := fun h => by
      rw [tel_newer, find_at hy h hb4]
    cases e : y.2.has d with
    | true =>
      refine iteT ?_
      refine ⟨_, rfl, y.1, _, dy, _, _, rfl, hy1, T.cl _, T.n_worth _, ruFl_worth _ _ _, ?_⟩
      refine k _ _ s1 ?_
      rw [et e]
      exact hy2
    | false =>
      refine iteF ?_
      refine ⟨⟨_, rfl⟩, rfl, fun j z hj hz => ?_⟩
      rcases Nat.lt_succ_iff_lt_or_eq.mp hj with q | q
      · exact hb4 j z q hz
      · subst q
        rw [hy] at hz
        cases hz
        exact e
  · rintro σ Hc ⟨⟨v3, rfl⟩, rfl, hb4⟩
    refine ⟨_, rfl, _, rfl, wd, rfl, k _ _ s1 ?_⟩
    have e : tel (ps.map (·.2)) wd d = usualW wd := by
      rw [tel_newer, find_no fun j y hy => hb4 j y ?_ hy]
      have := (List.getElem?_eq_some_iff.mp hy).1
      unfold refs
      rw [List.length_map]
      exact this
    rw [e]
    exact usV_at _ wd

theorem sc_Book_rules : FnScope ["self", "rule"] ["self"] (defScope cBook_rules) := ⟨rfl, rfl, rfl, by decide +kernel, rfl, by decide +kernel, by decide +kernel⟩

def sp_Book_rules (K : PySem.W.Frag) : Sp := sp1 fun s H Q => ∃ b rs, s = .ref b ∧ BkAt K H b rs ∧ rs.length ≤ 24 ∧ ∀ q vs H', Same H H' → H q = none → H' q = some (.lst vs) → All2 (TuAt H') vs rs → Q (.ref q) H'
theorem has_rules (T : Tx K mg) : HasM P w K mg base (He.ga K "Book") "rules" 3 ["self"] (sp_Book_rules K) := by
  have m_told := has_told (P := P) (w := w) (base := base) T
  have g_nd := sc_Book_rules.nd
  refine T.m_Book_rules.has T.k_Book.c T.M_Book_rules sc_Book_rules (fun _ _ _ _ _ _ us hl => match us, hl with | [_], _ => rfl) sp1_len (fun cdv A outer s H vs Q E hr h => ?_)
  obtain ⟨a0, rfl, h⟩ := h
  obtain ⟨b, rs, rfl, ⟨⟨dx, kp, nw, kvs, ps, hb, hk, hn, hat, hru, rfl⟩, hok⟩, hlen, k⟩ := h
  refine ⟨_, (pss_one (ps_ret (pe_lc (own := [("rule", 1)]) (tt := tYes) (g := gName 1) rfl g_nd (pi_list (pe_fld (pv 0) rfl)) (blkOk_by (own := [("rule", 1)]) (N := ["self", "rule"]) (sc := defScope cBook_rules) (by decide +kernel)) (fun _ _ _ _ _ => (pg_name (i := 1) g_nd rfl (by first | exact Or.inl rfl | exact Or.inr rfl))) (fun _ _ _ _ _ => pts_nil) (fun _ _ _ _ _ => (pe_ex fun wd => pmeth0 (pv 1) (m_told wd) (hr.mono (by decide))))))), ?_⟩
  refine ⟨_, rfl, b, _, dx, _, _, rfl, hb, T.k_Book.c, T.n_Book_kept, bkFl_kept _ _, kp, rfl, ⟨_, SqL.of hk⟩, fun D hD => ?_⟩
  refine lc_list (K := K) (a := kp) (xs := refs ps) (fun i Hc => Same H Hc ∧ ∃ acc, Hc D = some (.lst acc) ∧ acc.length = i ∧ All2 (TuAt Hc) acc ((ps.map (·.2)).take i))
    ⟨snewR hD, [], upd_same, rfl, by simp; exact .nil⟩ (fun i Hc _ ⟨s1, _⟩ => s1.seq (SqL.of hk)) ?_ ?_
  · rintro i x Hc hx ⟨s1, acc, ha, hl, h2⟩
    obtain ⟨y, hy, rfl⟩ : ∃ y, ps[i]? = some y ∧ x = V.ref y.1 := by
      unfold refs at hx
      rw [List.getElem?_map] at hx
      cases e : ps[i]? with
      | none => rw [e] at hx; cases hx
      | some y => rw [e] at hx; exact ⟨y, rfl, (Option.some.inj hx).symm⟩
    have hi := (List.getElem?_eq_some_iff.mp hy).1
    have ry := (hru y (List.mem_of_getElem? hy)).mono s1
    obtain ⟨dy, xy, hy1, hy2⟩ := id ry
    refine ⟨rfl, ?_⟩
    refine ⟨y.2.w, _, rfl, y.1, dy, _, rfl, hy1, ruFl_told _ _ _, _, rfl, y.1, y.2, rfl, ry, rfl, fun q H' s2 hq ht => ?_⟩
    refine ⟨acc, s2 _ _ ha, by rw [hl]; exact Nat.lt_of_lt_of_le hi (by have hlen := hlen; rw [List.length_map] at hlen; rw [sizeLine_eq]; omega), snew (s1.trans s2) hD, _, upd_same, by rw [List.length_append, hl]; rfl, ?_⟩
    have kt : KT Hc (upd H' D (.lst (acc ++ [.ref q]))) := (KT.of s2).trans (KT.lst (s2 _ _ ha))
    have e : (ps.map (·.2)).take (i + 1) = (ps.map (·.2)).take i ++ [y.2] := by
      rw [List.take_succ, List.getElem?_map, hy]
      rfl
    rw [e]
    exact (h2.mono fun _ _ => TuAt.kt kt).snoc (ht.kt (KT.lst (s2 _ _ ha)))
  · rintro Hc ⟨s1, acc, ha, hl, h2⟩
    have hll : (refs ps).length = (ps.map (·.2)).length := by unfold refs; rw [List.length_map, List.length_map]
    rw [hll, List.take_length] at h2
    exact k D acc Hc s1 hD ha h2

end
end Stp
namespace Stp
open PySem PySem.Spec PyProof.Rows L2
section
variable {P : Program} {w : World} {K : PySem.W.Frag} {mg : Str → Option Value} {base : Heap}

/-- the heap without some addresses -/
def mask (M : Addr → Bool) (H : Hp) : Hp := fun a => if M a = true then none else H a
theorem mask_at {M : Addr → Bool} {H : Hp} {a : Addr} (h : M a = false) : mask M H a = H a := by
  unfold mask
  rw [h]
  rfl
theorem mask_some {M : Addr → Bool} {H : Hp} {a : Addr} {o : HO} (h : mask M H a = some o) : M a = false ∧ H a = some o := by
  unfold mask at h
  cases e : M a with
  | true => rw [e] at h; cases h
  | false => rw [e] at h; exact ⟨rfl, h⟩
theorem mask_le (M : Addr → Bool) (H : Hp) : Same (mask M H) H := fun a o h => (mask_some h).2
theorem mask_same {M : Addr → Bool} {H H' : Hp} (h : ∀ a o, M a = false → H a = some o → H' a = some o) : Same (mask M H) (mask M H') := fun a o e => by
  obtain ⟨e1, e2⟩ := mask_some e
  rw [mask_at e1]
  exact h a o e1 e2
theorem mask_sub {M N : Addr → Bool} {H : Hp} (h : ∀ a, N a = true → M a = true) : Same (mask M H) (mask N H) := fun a o e => by
  obtain ⟨e1, e2⟩ := mask_some e
  have : N a = false := by
    cases q : N a with
    | false => rfl
    | true => rw [h a q] at e1; cases e1
  rw [mask_at this]
  exact e2
structure BI (K : PySem.W.Frag) (H0 : Hp) (p dx kp nw L : Addr) (vs : List V) (rs : List Rl) (i : Nat) (Hc : Hp) (kvs : List (Key × V)) (ps : List (Addr × Rl)) : Prop where
  ob : Hc p = some (.ins (He.ga K "Book") dx (BkFl kp nw))
  hk : Hc kp = some (.lst (refs ps))
  hn : Hc nw = some (.dK kvs)
  at_ : NwAt Hc kvs ps
  ru : ∀ q ∈ ps, RuAt K Hc q.1 q.2
  mp : ps.map (·.2) = rs.take i
  keep : ∀ b o, H0 b = some o → b ≠ p → Hc b = some o
  hL : Hc L = some (.lst vs)
  fk : H0 kp = none
  fn : H0 nw = none
  fl : ∀ (w : Wd) (l : Addr), valV kvs (Sum.inr w.s : Key) = some (.ref l) → H0 l = none ∧ l ≠ kp ∧ l ≠ L
  inj : ∀ (w v : Wd) (l : Addr), valV kvs (Sum.inr w.s : Key) = some (.ref l) → valV kvs (Sum.inr v.s : Key) = some (.ref l) → w = v
  len : kvs.length ≤ i
  lk : L ≠ kp
theorem refs_snoc (ps : List (Addr × Rl)) (q : Addr × Rl) : refs (ps ++ [q]) = refs ps ++ [V.ref q.1] := by
  unfold refs
  rw [List.map_append]
  rfl
theorem key_w {w v : Wd} : ((Sum.inr w.s : Key) = Sum.inr v.s) ↔ w = v := ⟨fun h => Wd.s_inj (Sum.inr.inj h), fun h => by rw [h]⟩
theorem valV_putw (kvs : List (Key × V)) (w v : Wd) (x : V) : valV (putK kvs (Sum.inr w.s : Key) x) (Sum.inr v.s : Key) = if v = w then some x else valV kvs (Sum.inr v.s : Key) := by
  rw [valV_put]
  by_cases e : v = w
  · rw [if_pos e, if_pos (by rw [e])]
  · rw [if_neg e, if_neg fun h => e (key_w.mp h)]
/-- one rule more -/
theorem BI.next {K : PySem.W.Frag} {H0 : Hp} {p dx kp nw L : Addr} {vs : List V} {rs : List Rl} {i : Nat} {Hc : Hp} {kvs : List (Key × V)} {ps : List (Addr × Rl)} (B : BI K H0 p dx kp nw L vs rs i Hc kvs ps)
    {H2 : Hp} (s2 : Same Hc H2) {v : Addr} {r : Rl} (hr : rs[i]? = some r) (rv : RuAt K H2 v r) {D : Addr} (hD : H2 D = none) (p0 : ∃ o, H0 p = some o)
    {l : Addr} {kvs' : List (Key × V)}
    (c : (valV kvs (Sum.inr r.w.s : Key) = some (.ref l) ∧ kvs' = kvs) ∨ (valV kvs (Sum.inr r.w.s : Key) = none ∧ l = D ∧ kvs' = putK kvs (Sum.inr r.w.s : Key) (.ref D))) :
    ∃ xs, (upd (upd (upd H2 kp (.lst (refs ps ++ [.ref v]))) D (.lst [])) nw (.dK kvs')) l = some (.lst xs) ∧ xs = refs (newer ps r.w) ∧ BI K H0 p dx kp nw L vs rs (i + 1) (upd (upd (upd (upd H2 kp (.lst (refs ps ++ [.ref v]))) D (.lst [])) nw (.dK kvs')) l (.lst (V.ref v :: xs))) kvs' (ps ++ [(v, r)]) := by
  have hk2 := s2 _ _ B.hk
  have hn2 := s2 _ _ B.hn
  have hp2 := s2 _ _ B.ob
  have hL2 := s2 _ _ B.hL
  have nkn : nw ≠ kp := ne_of hn2 hk2 (by intro z; cases z)
  have nkD : kp ≠ D := ne_of_none hk2 hD
  have nnD : nw ≠ D := ne_of_none hn2 hD
  have nLD : L ≠ D := ne_of_none hL2 hD
  have npk : p ≠ kp := ne_of hp2 hk2 (by intro z; cases z)
  have npn : p ≠ nw := ne_of hp2 hn2 (by intro z; cases z)
  have npD : p ≠ D := ne_of_none hp2 hD
  have nLn : L ≠ nw := ne_of hL2 hn2 (by intro z; cases z)
  have D0 : H0 D = none := by
    cases e : H0 D with
    | none => rfl
    | some o =>
      by_cases z : D = p
      · exact absurd z.symm npD
      · have := s2 _ _ (B.keep D o e z)
        rw [hD] at this
        cases this
  -- what l is
  have lf : l ≠ kp ∧ l ≠ nw ∧ l ≠ p ∧ l ≠ L ∧ H0 l = none := by
    rcases c with ⟨c1, _⟩ | ⟨_, rfl, _⟩
    · obtain ⟨a1, a2, a3⟩ := B.fl _ _ c1
      have hl : Hc l = some (.lst (refs (newer ps r.w))) := by
        rcases B.at_ r.w with ⟨h1, _⟩ | ⟨l', h1, h2⟩
        · rw [h1] at c1; cases c1
        · rw [h1] at c1; cases c1; exact h2
      exact ⟨a2, ne_of hl B.hn (by intro z; cases z), ne_of hl B.ob (by intro z; cases z), a3, a1⟩
    · exact ⟨nkD.symm, nnD.symm, npD.symm, nLD.symm, D0⟩
  obtain ⟨lk, ln, lp, lL, l0⟩ := lf
  have hl5 : (upd (upd (upd H2 kp (.lst (refs ps ++ [.ref v]))) D (.lst [])) nw (.dK kvs')) l = some (.lst (refs (newer ps r.w))) := by
    rw [upd_ne ln]
    rcases c with ⟨c1, _⟩ | ⟨c1, rfl, _⟩
    · have hl : Hc l = some (.lst (refs (newer ps r.w))) := by
        rcases B.at_ r.w with ⟨h1, _⟩ | ⟨l', h1, h2⟩
        · rw [h1] at c1; cases c1
        · rw [h1] at c1; cases c1; exact h2
      have hl2 := s2 _ _ hl
      rw [upd_ne (ne_of_none hl2 hD), upd_ne lk]
      exact hl2
    · rw [upd_same]
      rcases B.at_ r.w with ⟨_, h2⟩ | ⟨l', h1, _⟩
      · rw [h2]; rfl
      · rw [h1] at c1; cases c1
  refine ⟨_, hl5, rfl, ?_⟩
  have kt : KT H2 (upd (upd (upd (upd H2 kp (.lst (refs ps ++ [.ref v]))) D (.lst [])) nw (.dK kvs')) l (.lst (V.ref v :: refs (newer ps r.w)))) := by
    refine KT.trans (KT.lst hk2) (KT.trans (KT.of (snewR (by rw [upd_ne nkD.symm]; exact hD))) (KT.trans (KT.dct (xs := kvs) ?_) (KT.lst hl5)))
    rw [upd_ne nnD, upd_ne nkn]
    exact hn2
  have ki : KI H2 (upd (upd (upd (upd H2 kp (.lst (refs ps ++ [.ref v]))) D (.lst [])) nw (.dK kvs')) l (.lst (V.ref v :: refs (newer ps r.w)))) := by
    refine KI.trans (KI.lst hk2) (KI.trans (KI.of (snewR (by rw [upd_ne nkD.symm]; exact hD))) (KI.trans (KI.dct (xs := kvs) ?_) (KI.lst hl5)))
    rw [upd_ne nnD, upd_ne nkn]
    exact hn2
  have val : ∀ u : Wd, valV kvs' (Sum.inr u.s : Key) = if u = r.w then some (.ref l) else valV kvs (Sum.inr u.s : Key) := fun u => by
    rcases c with ⟨c1, rfl⟩ | ⟨c1, rfl, rfl⟩
    · by_cases e : u = r.w
      · rw [if_pos e, e]; exact c1
      · rw [if_neg e]
    · exact valV_putw kvs r.w u _
  have loth : ∀ (u : Wd) (m : Addr), u ≠ r.w → valV kvs (Sum.inr u.s : Key) = some (.ref m) → m ≠ l := fun u m hu hm z => by
    rcases c with ⟨c1, _⟩ | ⟨c1, rfl, _⟩
    · subst z
      exact hu (B.inj _ _ _ hm c1)
    · subst z
      rcases B.at_ u with ⟨h1, _⟩ | ⟨l', h1, h2⟩
      · rw [h1] at hm; cases hm
      · rw [h1] at hm
        cases hm
        have := s2 _ _ h2
        rw [hD] at this
        cases this
  have hm2 : ∀ (u : Wd) (m : Addr), valV kvs (Sum.inr u.s : Key) = some (.ref m) → H2 m = some (.lst (refs (newer ps u))) := fun u m hm => by
    rcases B.at_ u with ⟨h1, _⟩ | ⟨l', h1, h2⟩
    · rw [h1] at hm; cases hm
    · rw [h1] at hm; cases hm; exact s2 _ _ h2
  constructor
  · rw [upd_ne lp.symm, upd_ne npn, upd_ne npD, upd_ne npk]
    exact hp2
  · rw [upd_ne lk.symm, upd_ne nkn.symm, upd_ne nkD, upd_same, refs_snoc]
  · rw [upd_ne ln.symm, upd_same]
  · intro u
    rw [val u, newer_snoc]
    by_cases e : r.w = u
    · rw [if_pos e, if_pos e.symm]
      exact .inr ⟨l, rfl, by rw [upd_same, e]; rfl⟩
    · rw [if_neg e, if_neg fun z => e z.symm]
      rcases B.at_ u with h | ⟨m, h1, h2⟩
      · exact .inl h
      · refine .inr ⟨m, h1, ?_⟩
        have h2' := s2 _ _ h2
        rw [upd_ne (loth u m (fun z => e z.symm) h1), upd_ne (ne_of h2' hn2 (by intro z; cases z)), upd_ne (ne_of_none h2' hD), upd_ne (B.fl u m h1).2.1]
        exact h2'
  · intro q hq
    rcases List.mem_append.mp hq with hq | hq
    · exact ((B.ru q hq).mono s2).kt kt ki
    · cases List.mem_singleton.mp hq
      exact rv.kt kt ki
  · rw [List.map_append, B.mp, List.take_succ, hr]
    rfl
  · intro b o hb hbp
    have h2 := s2 _ _ (B.keep b o hb hbp)
    rw [upd_ne (ne_of_none hb l0), upd_ne (ne_of_none hb B.fn), upd_ne (ne_of_none hb D0), upd_ne (ne_of_none hb B.fk)]
    exact h2
  · rw [upd_ne lL.symm, upd_ne nLn, upd_ne nLD, upd_ne B.lk]
    exact hL2
  · exact B.fk
  · exact B.fn
  · intro u m hm
    rw [val u] at hm
    by_cases e : u = r.w
    · rw [if_pos e] at hm
      cases hm
      exact ⟨l0, lk, lL⟩
    · rw [if_neg e] at hm
      exact B.fl u m hm
  · intro u t m h1 h2
    rw [val u] at h1
    rw [val t] at h2
    by_cases e : u = r.w
    · by_cases e2 : t = r.w
      · rw [e, e2]
      · rw [if_pos e] at h1
        rw [if_neg e2] at h2
        cases h1
        exact absurd rfl (loth t l e2 h2)
    · rw [if_neg e] at h1
      by_cases e2 : t = r.w
      · rw [if_pos e2] at h2
        cases h2
        exact absurd rfl (loth u l e h1)
      · rw [if_neg e2] at h2
        exact B.inj u t m h1 h2
  · rcases c with ⟨_, rfl⟩ | ⟨_, _, rfl⟩
    · exact Nat.le_succ_of_le B.len
    · exact Nat.le_trans (length_putK _ _ _) (Nat.succ_le_succ B.len)
  · exact B.lk

theorem sc_Book___init : FnScope ["self", "rules", "things", "number", "thing", "rule"] ["self", "rules"] (defScope cBook_init) := ⟨rfl, rfl, rfl, by decide +kernel, rfl, by decide +kernel, by decide +kernel⟩

def sp_Book___init (K : PySem.W.Frag) : Sp := sp2 fun s a H Q => ∃ p dx l rs vs, s = .ref p ∧ a = .ref l ∧ H p = some (.ins (He.ga K "Book") dx []) ∧ SqL K H l vs ∧ All2 (TuAt H) vs rs ∧ (∀ r ∈ rs, r.Ok) ∧ rs.length ≤ 24 ∧ ∀ H', (∀ b o, H b = some o → b ≠ p → H' b = some o) → (∀ M : Addr → Bool, (∀ a, M a = true → ∃ xs, H a = some (.lst xs)) → BkAt K (mask M H') p rs) → Q .non H'
theorem has_Book (T : Tx K mg) : HasC P w K mg base "Book" (He.ga K "Book") 6 ["self", "rules"] (sp_Book___init K) := by
  have g_rule_of := has_rule_of (P := P) (w := w) (base := base) T
  have m_word := has_word (P := P) (w := w) (base := base) T
  have g_nd := sc_Book___init.nd
  refine T.k_Book.has T.m_Book_init sc_Book___init (fun fd F => ?_) sp2_len (fun cdv A outer s H vs Q E hr h => ?_)
  · obtain ⟨ds, hv, hb⟩ := F.binds1 (ps := ["self", "rules"]) 2 1 (by simp) rfl (fun T kV doc pm an cdv ct us its h1 h2 => match us, its, h1, h2 with
      | [_, _], [_], _, _ => ⟨_, rfl, rfl⟩)
    cases hv
    exact hb
  obtain ⟨a0, a1, rfl, h⟩ := h
  obtain ⟨p, dx, l, rs, vs, rfl, rfl, hp, hl, h2, hok, hlen, k⟩ := h
  refine ⟨_, (pss_cons (ps_set (i := 2) g_nd rfl (by first | exact Or.inl rfl | exact Or.inr rfl) (pe_lst pa_nil))
        (pss_cons (ps_if (pt_cmpR op_notN (pv 1) pe_non (nomark _)) (pss_one (ps_set (i := 2) g_nd rfl (by first | exact Or.inl rfl | exact Or.inr rfl) (pe_callTy call_list_of (by rfl) T.b_list (by decide +kernel) (pa_cons (pv 1) pa_nil)))) pss_nil)
        (pss_cons (ps_fld (pv 0) (pe_lst pa_nil) rfl)
        (pss_cons (ps_fld (pv 0) pe_dnewK rfl)
        (pss_cons (ps_for PassesOwn.never rfl (pi_enum (by rfl) T.b_enumerate (pa_cons (pv 2) pa_nil)) (pg_tup rfl (pgs_cons (pg_name (i := 3) g_nd rfl (by first | exact Or.inl rfl | exact Or.inr rfl)) (pgs_cons (pg_name (i := 4) g_nd rfl (by first | exact Or.inl rfl | exact Or.inr rfl)) pgs_nil))) (pss_cons (ps_set (i := 5) g_nd rfl (by first | exact Or.inl rfl | exact Or.inr rfl) (pcall g_rule_of (hr.mono (by decide)) (by rfl) (pa_cons (pv 4) pa_nil)))
        (pss_cons (ps_if (pt_cmpR op_isN (pv 5) pe_non (nomark _)) (pss_one ps_never) pss_nil)
        (pss_cons (ps_expr (pe_bm PySem.F.plainAttrs_list PySem.F.slot_list_append PySem.F.type_list_append mt_append (pe_fld (pv 0) rfl) (pa_cons (pv 5) pa_nil)))
        (pss_one (ps_expr (pe_bm PySem.F.plainAttrs_list PySem.F.slot_list_insert PySem.F.type_list_insert mt_insert (pe_dsetd (pe_fld (pv 0) rfl) (pe_ex fun wd => pmeth0 (pv 5) (m_word wd) (hr.mono (by decide))) (pe_lst pa_nil) ⟨rfl, rfl, rfl, rfl⟩) (pa_cons pe_int (pa_cons (pv 5) pa_nil)))))))))
        (pss_one (ps_if (pt_cmpR op_gt (pe_callB (r := rLenS K) (id := "len") clen (by rfl) T.b_len (by decide +kernel) (pa_cons (pv 2) pa_nil)) (pe_gint (by rfl) T.k_MOST_RULES) (nomark _)) (pss_one ps_never) pss_nil))))))), ?_⟩
  refine ⟨Nat.zero_le _, fun t0 ht0 => ?_⟩
  have s1 : Same H (upd H t0 (.lst [])) := snewR ht0
  refine ⟨_, rfl, rfl, _, rfl, iteTn (by simp) ?_⟩
  refine ⟨_, rfl, l, vs, rfl, .inl (s1.seq hl), fun L hL => ?_⟩
  have s2 : Same H (upd (upd H t0 (.lst [])) L (.lst vs)) := s1.trans (snewR hL)
  refine ⟨Nat.zero_le _, fun kp hkp => ?_⟩
  have s3 := s2.trans (snewR (o := .lst []) hkp)
  refine ⟨_, rfl, p, _, dx, [], rfl, s3 _ _ hp, T.k_Book.c, T.n_Book_kept, (by decide), ?_⟩
  have pk : kp ≠ p := (ne_of_none (s2 _ _ hp) hkp).symm
  intro nw hnw
  have pn : nw ≠ p := fun z => by
    rw [z, upd_same] at hnw
    cases hnw
  have kn : nw ≠ kp := fun z => by
    rw [z, upd_ne pk, upd_same] at hnw
    cases hnw
  rw [upd_ne pn, upd_ne kn] at hnw
  have pL : L ≠ p := (ne_of_none (s1 _ _ hp) hL).symm
  have kL : kp ≠ L := fun z => by
    rw [z, upd_same] at hkp
    cases hkp
  have nL : nw ≠ L := fun z => by
    rw [z, upd_same] at hnw
    cases hnw
  refine ⟨_, rfl, p, _, dx, _, rfl, (by rw [upd_ne pn.symm, upd_same]), T.k_Book.c, T.n_Book_newest, (by show 1 < 1000; decide), ?_⟩
  have hLs : ∀ o, SqL K (upd (upd (upd (upd (upd (upd H t0 (.lst [])) L (.lst vs)) kp (.lst [])) p (.ins (He.ga K "Book") dx (putF "kept" (.ref kp) []))) nw (.dK [])) p o) L vs := fun o => SqL.of (by rw [upd_ne pL, upd_ne nL.symm, upd_ne pL, upd_ne kL.symm, upd_same])
  refine ⟨_, rfl, L, vs, rfl, hLs _, for_enum (K := K) (a := L) (xs := vs) (fun i σ Hc => (∃ v3 v4 v5, σ = [some (.ref p), some (.ref l), some (.ref L), v3, v4, v5]) ∧ ∃ kvs ps, BI K H p dx kp nw L vs rs i Hc kvs ps)
    ⟨⟨none, none, none, rfl⟩, [], [], ?_⟩ (fun i σ Hc _ ⟨_, kvs, ps, B⟩ => SqL.of B.hL) ?_ ?_⟩
  · constructor
    · rw [upd_same]; rfl
    · rw [upd_ne pk, upd_ne kn.symm, upd_ne pk, upd_same]; rfl
    · rw [upd_ne pn, upd_same]
    · intro u
      exact .inl ⟨rfl, rfl⟩
    · intro q hq
      cases hq
    · rfl
    · intro b o hb hbp
      rw [upd_ne hbp, upd_ne (ne_of_none (s2 _ _ hb) hnw), upd_ne hbp]
      exact s3 _ _ hb
    · rw [upd_ne pL, upd_ne nL.symm, upd_ne pL, upd_ne kL.symm, upd_same]
    · exact s2.free hkp
    · exact s2.free hnw
    · intro u m hm
      cases hm
    · intro u v m hm
      cases hm
    · exact Nat.zero_le _
    · exact kL.symm
  · rintro i x Tp σ Hc hx ⟨⟨v3, v4, v5, rfl⟩, kvs, ps, B⟩ hT
    obtain ⟨r, hri, tx⟩ := h2.get hx
    have hi : i < 24 := Nat.lt_of_lt_of_le (List.getElem?_eq_some_iff.mp hri).1 hlen
    have ktc : KT H Hc := fun b xs hb => B.keep b _ hb (ne_of hb hp (by intro z; cases z))
    have sT : Same Hc (upd Hc Tp (.tup [.int (i : Nat), x])) := snewR hT
    refine ⟨Tp, _, rfl, SqT.of upd_same, rfl, _, _, rfl, _, _, rfl, rfl, ?_⟩
    refine ⟨_, rfl, _, rfl, r, (tx.kt ktc).mono sT, hok r (List.mem_of_getElem? hri), fun v H2 sv hv rv => ?_⟩
    have s2c : Same Hc H2 := sT.trans sv
    refine ⟨_, rfl, rfl, _, rfl, iteFd (by simp) ?_⟩
    have pl : ps.length = i := by
      have e := congrArg List.length B.mp
      rw [List.length_map, List.length_take] at e
      have := (List.getElem?_eq_some_iff.mp hri).1
      omega
    have small : ∀ n : Nat, n ≤ 24 → n < sizeLine := fun n hn => by rw [sizeLine_eq]; omega
    refine ⟨_, rfl, p, _, dx, _, _, rfl, s2c _ _ B.ob, T.k_Book.c, T.n_Book_kept, bkFl_kept _ _, .inl ⟨rfl, _, SqL.of (s2c _ _ B.hk)⟩, _, rfl, kp, _, _, rfl, rfl, s2c _ _ B.hk, (by unfold refs; rw [List.length_map]; exact small _ (by omega)), ?_⟩
    have hp3 : ∀ o, (upd H2 kp o) p = some (.ins (He.ga K "Book") dx (BkFl kp nw)) := fun o => by rw [upd_ne (ne_of (s2c _ _ B.ob) (s2c _ _ B.hk) (by intro z; cases z))]; exact s2c _ _ B.ob
    have hn3 : ∀ o, (upd H2 kp o) nw = some (.dK kvs) := fun o => by rw [upd_ne (ne_of (s2c _ _ B.hn) (s2c _ _ B.hk) (by intro z; cases z))]; exact s2c _ _ B.hn
    obtain ⟨dr, xr, rv1, rv2⟩ := id rv
    have rv3 : ∀ o, (upd H2 kp o) v = some (.ins (cA K r.w) dr (RuFl r.a r.b xr)) := fun o => by rw [upd_ne (ne_of rv1 (s2c _ _ B.hk) (by intro z; cases z))]; exact rv1
    refine ⟨_, rfl, p, _, dx, _, _, rfl, hp3 _, T.k_Book.c, T.n_Book_newest, bkFl_newest _ _, nw, rfl, .inl ⟨kvs, .inl (hn3 _)⟩, ?_⟩
    refine ⟨r.w, _, rfl, v, dr, _, rfl, rv3 _, ruFl_word _ _ _, _, rfl, Nat.zero_le _, fun D hD => ?_⟩
    have hDk : D ≠ kp := fun z => by
      rw [z, upd_same] at hD
      cases hD
    rw [upd_ne hDk] at hD
    have nD : nw ≠ D := ne_of_none (s2c _ _ B.hn) hD
    refine ⟨kvs, Sum.inr r.w.s, (by rw [upd_ne nD]; exact hn3 _), rfl, small _ (by have := B.len; omega), fun x hx' => ?_, fun hx' => ?_⟩
    · obtain ⟨l', rfl⟩ : ∃ l', x = .ref l' := by
        rcases B.at_ r.w with ⟨h1, _⟩ | ⟨l', h1, _⟩
        · rw [h1] at hx'; cases hx'
        · rw [h1] at hx'; cases hx'; exact ⟨_, rfl⟩
      obtain ⟨xs, e1, e2, B'⟩ := B.next s2c hri rv hD ⟨_, hp⟩ (.inl ⟨hx', rfl⟩)
      have e0 : upd (upd (upd H2 kp (.lst (refs ps ++ [.ref v]))) D (.lst [])) nw (.dK kvs) = upd (upd H2 kp (.lst (refs ps ++ [.ref v]))) D (.lst []) := by
        funext b
        by_cases z : b = nw
        · rw [z, upd_same, upd_ne nD]
          exact (hn3 _).symm
        · rw [upd_ne z]
      rw [e0] at e1 B'
      refine ⟨.inl ⟨rfl, _, SqL.of e1⟩, _, rfl, l', xs, 0, _, rfl, rfl, e1, (by rw [e2]; unfold refs; rw [List.length_map]; exact small _ (Nat.le_trans (newer_len _ _) (by omega))), Int.le_refl _, (by decide), ?_⟩
      exact ⟨⟨_, _, _, rfl⟩, _, _, B'⟩
    · obtain ⟨xs, e1, e2, B'⟩ := B.next s2c hri rv hD ⟨_, hp⟩ (.inr ⟨hx', rfl, rfl⟩)
      refine ⟨.inl ⟨rfl, _, SqL.of e1⟩, _, rfl, D, xs, 0, _, rfl, rfl, e1, (by rw [e2]; unfold refs; rw [List.length_map]; exact small _ (Nat.le_trans (newer_len _ _) (by omega))), Int.le_refl _, (by decide), ?_⟩
      exact ⟨⟨_, _, _, rfl⟩, _, _, B'⟩
  · rintro σ Hc ⟨⟨v3, v4, v5, rfl⟩, kvs, ps, B⟩
    have lv : vs.length = rs.length := h2.length
    refine ⟨_, rfl, L, _, rfl, .inl (SqL.of B.hL), _, _, rfl, rfl, _, rfl, iteFd (by rw [lv]; omega) ?_⟩
    refine k Hc B.keep fun M hM => ?_
    have off : ∀ a, H a = none → M a = false := fun a ha => by
      cases e : M a with
      | false => rfl
      | true =>
        obtain ⟨xs, hx⟩ := hM a e
        rw [ha] at hx
        cases hx
    have offo : ∀ (a : Addr) (o : HO), Hc a = some o → (∀ xs, o ≠ .lst xs) → M a = false := fun a o ha ho => by
      cases e : M a with
      | false => rfl
      | true =>
        obtain ⟨xs, hx⟩ := hM a e
        have ap : a ≠ p := ne_of hx hp (by intro z; cases z)
        have := B.keep a _ hx ap
        rw [ha] at this
        cases this
        exact absurd rfl (ho xs)
    have kt : KT Hc (mask M Hc) := fun b xs h => by rw [mask_at (offo b _ h fun _ z => by cases z)]; exact h
    have ki : KI Hc (mask M Hc) := fun b _ _ _ h => by rw [mask_at (offo b _ h fun _ z => by cases z)]; exact h
    refine ⟨⟨dx, kp, nw, kvs, ps, ki _ _ _ _ B.ob, by rw [mask_at (off _ B.fk)]; exact B.hk, by rw [mask_at (off _ B.fn)]; exact B.hn, fun u => ?_, fun q hq => (B.ru q hq).kt kt ki, ?_⟩, hok⟩
    · rcases B.at_ u with h | ⟨l', h1, h2⟩
      · exact .inl h
      · exact .inr ⟨l', h1, by rw [mask_at (off _ (B.fl u l' h1).1)]; exact h2⟩
    · rw [B.mp, lv, List.take_length]

end
end Stp
namespace Stp
open PySem PySem.Spec PyProof.Rows L2
/-! ### what a stay costs -/
def priceO (rs : List Rl) (d : Int) : Option Int := match tel rs .price d with
  | .int i => some i
  | _ => none
def comeB (rs : List Rl) (d : Int) : Bool := match tel rs .come d with
  | .bl b => b
  | _ => false
def goB (rs : List Rl) (d : Int) : Bool := match tel rs .go d with
  | .bl b => b
  | _ => false
def leastI (rs : List Rl) (d : Int) : Int := match tel rs .least d with
  | .int i => i
  | _ => 0
def mostI (rs : List Rl) (d : Int) : Int := match tel rs .most d with
  | .int i => i
  | _ => 0
def dealO (rs : List Rl) (d : Int) : Option (Int × Int) := match tel rs .deal d with
  | .two m f => some (m, f)
  | _ => none
def feeI (rs : List Rl) (d : Int) : Int := match tel rs .fee d with
  | .int i => i
  | _ => 0
/-- the ints b, b + 1, .. below e -/
def rg (b e : Int) : List Int := (List.range (e - b).toNat).map fun i => b + (i : Nat)
def canB (rs : List Rl) (b e : Int) : Bool :=
  (decide (leastI rs b ≤ e - b) && decide (e - b ≤ mostI rs b)) && ((comeB rs b && goB rs e) && (rg b e).all fun n => (priceO rs n).isSome)
def prices (rs : List Rl) (b e : Int) : List Int := (rg b e).map fun n => (priceO rs n).getD 0
def freeSum (l : List Int) (f : Nat) : Int := ((l.mergeSort (fun a b => decide (a ≤ b))).take f).sum
def bund (ps : List Int) (m k : Nat) : List Int := (ps.drop (k * m)).take m
def freeTot (ps : List Int) (m f : Nat) : Nat → Int
  | 0 => 0
  | k + 1 => freeTot ps m f k + freeSum (bund ps m k) f
def unm (ps : List Int) : Option (Int × Int) → Int
  | none => ps.sum
  | some (m, f) => ps.sum - freeTot ps m.toNat f.toNat (ps.length / m.toNat)
def billI (rs : List Rl) (b e : Int) : Int := feeI rs b + unm (prices rs b e) (dealO rs b)
def costO (rs : List Rl) (b e : Int) : Option Int := if canB rs b e = true then some (billI rs b e) else none
theorem rg_length (b e : Int) : (rg b e).length = (e - b).toNat := by unfold rg; rw [List.length_map, List.length_range]
theorem rg_get {b e : Int} {i : Nat} (h : i < (e - b).toNat) : (rg b e)[i]? = some (b + (i : Nat)) := by
  unfold rg
  rw [List.getElem?_map, List.getElem?_range h]
  rfl
theorem rgV_eq (b e : Int) : rgV b e = (rg b e).map V.int := by
  unfold rgV rg
  rw [List.map_map]
  rfl
theorem mem_rg {b e n : Int} : n ∈ rg b e ↔ b ≤ n ∧ n < e := by
  unfold rg
  rw [List.mem_map]
  constructor
  · rintro ⟨i, hi, rfl⟩
    have := List.mem_range.mp hi
    omega
  · rintro ⟨h1, h2⟩
    exact ⟨(n - b).toNat, List.mem_range.mpr (by omega), by omega⟩
theorem prices_length (rs : List Rl) (b e : Int) : (prices rs b e).length = (e - b).toNat := by unfold prices; rw [List.length_map, rg_length]
/-! ### marks -/
def sumU : List Int → List Bool → Int
  | p :: ps, b :: bs => (if b = true then 0 else p) + sumU ps bs
  | _, _ => 0
theorem sumU_false : ∀ ps : List Int, sumU ps (List.replicate ps.length false) = ps.sum
  | [] => rfl
  | p :: ps => by
    show (if false = true then 0 else p) + sumU ps (List.replicate ps.length false) = _
    rw [sumU_false ps, if_neg Bool.false_ne_true, List.sum_cons]
theorem sumU_set : ∀ {ps : List Int} {bs : List Bool} {i : Nat} {p : Int}, ps[i]? = some p → bs[i]? = some false → sumU ps (bs.set i true) = sumU ps bs - p
  | [], _, _, _, h, _ => by simp at h
  | _ :: _, [], _, _, _, h => by simp at h
  | q :: ps, b :: bs, 0, p, h1, h2 => by
    have e1 : q = p := Option.some.inj h1
    have e2 : b = false := Option.some.inj h2
    subst e1 e2
    show (if true = true then 0 else q) + sumU ps bs = ((if false = true then 0 else q) + sumU ps bs) - q
    rw [if_pos rfl, if_neg Bool.false_ne_true]
    omega
  | q :: ps, b :: bs, i + 1, p, h1, h2 => by
    show (if b = true then 0 else q) + sumU ps (bs.set i true) = ((if b = true then 0 else q) + sumU ps bs) - p
    rw [sumU_set (i := i) (p := p) h1 h2]
    omega
/-- the sum of the first ones of a sorted row that has the same members -/
theorem freeSum_of {l zs : List Int} (f : Nat) (hp : zs.Perm l) (hs : zs.Pairwise (· ≤ ·)) : freeSum l f = (zs.take f).sum := by
  have h1 : (l.mergeSort (fun a b => decide (a ≤ b))).Perm l := List.mergeSort_perm _ _
  have h2 : (l.mergeSort (fun a b => decide (a ≤ b))).Pairwise (fun a b => decide (a ≤ b) = true) := List.pairwise_mergeSort (fun a b c h1 h2 => by simp at h1 h2 ⊢; omega) (fun a b => by simp; omega) l
  have h3 : (l.mergeSort (fun a b => decide (a ≤ b))).Pairwise (· ≤ ·) := h2.imp fun h => of_decide_eq_true h
  unfold freeSum
  rw [PySem.W.ksm_same (hp.trans h1.symm).symm h3 hs]
theorem take_succ_sum (l : List Int) (j : Nat) (x : Int) (h : l[j]? = some x) : (l.take (j + 1)).sum = (l.take j).sum + x := by
  rw [List.take_succ, h, List.sum_append]
  simp
theorem rgc_ok : ∀ n : Nat, n < 15 → ∀ m : Nat, m < 15 → 0 < m → Builtin.Range.small 0 ((n : Int) - (m : Int) + 1) (m : Int) = true ∧ Builtin.Range.rangeSize 0 ((n : Int) - (m : Int) + 1) (m : Int) = ((n / m : Nat) : Int) := by
  decide +kernel
theorem rgc_of {n m : Nat} (hn : n < 15) (hm : m < 15) (h0 : 0 < m) : RgC 0 ((n : Int) - (m : Int) + 1) (m : Int) (n / m) := by
  obtain ⟨h1, h2⟩ := rgc_ok n hn m hm h0
  exact ⟨by omega, by omega, h1, h2⟩
end Stp
namespace Stp
open PySem PySem.Spec PyProof.Rows L2
section
variable {P : Program} {w : World} {K : PySem.W.Frag} {mg : Str → Option Value} {base : Heap}

def dOf : Wo → Option (Int × Int)
  | .two m f => some (m, f)
  | _ => none
theorem cut_to (xs : List V) {f : Nat} (h : f ≤ xs.length) : cutV xs none (some (f : Int)) = xs.take f := by
  unfold cutV
  rw [HT.sIx_none, HT.sIx_nat, List.drop_zero, Nat.sub_zero, Nat.min_eq_left h]
/-- the two ints at a value -/
def kf (H : Hp) (v : V) : Int × Int := match v with
  | .ref t => (match H t with
    | some (.tup [.int i, .int j]) => (i, j)
    | _ => (0, 0))
  | _ => (0, 0)
theorem kf_at {H : Hp} {t : Addr} {i j : Int} (h : H t = some (.tup [.int i, .int j])) : kf H (.ref t) = (i, j) := by
  show (match H t with
    | some (.tup [.int i, .int j]) => (i, j)
    | _ => (0, 0)) = (i, j)
  rw [h]
/-- what a bundle's pairs are -/
def prs (ps : List Int) (m k : Nat) : List (Int × Int) := (List.range m).map fun j => (ps.getD (k * m + j) 0, (ps.length : Int) - ((k * m + j : Nat) : Int))
theorem prs_fst {ps : List Int} {m k : Nat} (h : (k + 1) * m ≤ ps.length) : (prs ps m k).map (·.1) = bund ps m k := by
  have hm : k * m + m ≤ ps.length := by rw [Nat.succ_mul] at h; exact h
  unfold prs bund
  rw [List.map_map]
  refine List.ext_getElem ?_ fun i h1 h2 => ?_
  · rw [List.length_map, List.length_range, List.length_take, List.length_drop]
    omega
  · rw [List.length_map, List.length_range] at h1
    rw [List.getElem_map, List.getElem_take, List.getElem_drop, List.getElem_range]
    show ps.getD (k * m + i) 0 = _
    rw [List.getD_eq_getElem?_getD, List.getElem?_eq_getElem (by omega)]
    rfl
/-- the walk over the marked ones of a bundle -/
structure Mk3 (ps : List Int) (bs0 : List Bool) (zs : List (Int × Int)) (m k j : Nat) (bs : List Bool) : Prop where
  len : bs.length = ps.length
  sum : sumU ps bs = sumU ps bs0 - ((zs.take j).map (·.1)).sum
  off : ∀ at_ : Nat, k * m ≤ at_ → bs[at_]? = some true → ∃ (i : Nat) (z : Int × Int), i < j ∧ zs[i]? = some z ∧ z.2 = (ps.length : Int) - (at_ : Int)
theorem Mk3.next {ps : List Int} {bs0 : List Bool} {zs : List (Int × Int)} {m k j : Nat} {bs : List Bool} (M : Mk3 ps bs0 zs m k j bs) (hp : zs.Perm (prs ps m k)) (h : (k + 1) * m ≤ ps.length) {z : Int × Int} (hz : zs[j]? = some z) :
    ∃ at_ : Nat, (ps.length : Int) - z.2 = (at_ : Int) ∧ at_ < ps.length ∧ Mk3 ps bs0 zs m k (j + 1) (bs.set at_ true) := by
  have hm : k * m + m ≤ ps.length := by rw [Nat.succ_mul] at h; exact h
  have hmem : z ∈ prs ps m k := hp.mem_iff.mp (List.mem_of_getElem? hz)
  obtain ⟨i, hi, e⟩ := List.mem_map.mp hmem
  have hi := List.mem_range.mp hi
  have e1 : z.1 = ps.getD (k * m + i) 0 := by rw [← e]
  have e2 : z.2 = (ps.length : Int) - ((k * m + i : Nat) : Int) := by rw [← e]
  have hps : ps[k * m + i]? = some z.1 := by
    rw [e1, List.getD_eq_getElem?_getD, List.getElem?_eq_getElem (by omega)]
    rfl
  have nd : (zs.map (·.2)).Nodup := by
    refine (hp.map (·.2)).nodup_iff.mpr ?_
    unfold prs
    rw [List.map_map]
    refine List.Pairwise.map _ (fun a b (hab : a ≠ b) => ?_) List.nodup_range
    show (ps.length : Int) - ((k * m + a : Nat) : Int) ≠ (ps.length : Int) - ((k * m + b : Nat) : Int)
    omega
  have hb : bs[k * m + i]? = some false := by
    have hl : k * m + i < bs.length := by rw [M.len]; omega
    rw [List.getElem?_eq_getElem hl]
    cases eb : bs[k * m + i] with
    | false => rfl
    | true =>
      obtain ⟨i', z', h1, h2, h3⟩ := M.off (k * m + i) (by omega) (by rw [List.getElem?_eq_getElem hl, eb])
      have q1 : (zs.map (·.2))[i']? = some z.2 := by rw [List.getElem?_map, h2, e2, ← h3]; rfl
      have q2 : (zs.map (·.2))[j]? = some z.2 := by rw [List.getElem?_map, hz]; rfl
      have := nd_ix nd q1 q2
      omega
  refine ⟨k * m + i, by rw [e2]; omega, by omega, ⟨by rw [List.length_set, M.len], ?_, fun at_ ha hq => ?_⟩⟩
  · rw [sumU_set hps hb, M.sum, List.take_succ, hz, List.map_append, List.sum_append]
    show _ = _ - (_ + ([z.1] : List Int).sum)
    rw [List.sum_cons, List.sum_nil]
    omega
  · by_cases e3 : k * m + i = at_
    · exact ⟨j, z, Nat.lt_succ_self _, hz, by rw [e2, e3]⟩
    · rw [List.getElem?_set_ne e3] at hq
      obtain ⟨i', z', h1, h2, h3⟩ := M.off at_ ha hq
      exact ⟨i', z', Nat.lt_succ_of_lt h1, h2, h3⟩
/-- between two bundles -/
structure Mk2 (ps : List Int) (m f k : Nat) (bs : List Bool) : Prop where
  len : bs.length = ps.length
  sum : sumU ps bs = ps.sum - freeTot ps m f k
  off : ∀ at_ : Nat, k * m ≤ at_ → bs[at_]? ≠ some true
theorem Mk2.first {ps : List Int} {m f k : Nat} {bs : List Bool} (M : Mk2 ps m f k bs) (zs : List (Int × Int)) : Mk3 ps bs zs m k 0 bs :=
  ⟨M.len, by simp, fun at_ ha hq => absurd hq (M.off at_ ha)⟩
theorem Mk3.done {ps : List Int} {bs0 : List Bool} {zs : List (Int × Int)} {m f k : Nat} {bs : List Bool} (M0 : Mk2 ps m f k bs0) (M : Mk3 ps bs0 zs m k f bs) (hp : zs.Perm (prs ps m k)) (hs : zs.Pairwise fun x y => x.1 ≤ y.1) (h : (k + 1) * m ≤ ps.length) : Mk2 ps m f (k + 1) bs := by
  refine ⟨M.len, ?_, fun at_ ha hq => ?_⟩
  · have e : freeSum (bund ps m k) f = ((zs.take f).map (·.1)).sum := by
      rw [freeSum_of f (zs := zs.map (·.1)) (by rw [← prs_fst h]; exact hp.map _) (List.Pairwise.map _ (fun a b h => h) hs), List.map_take]
    rw [M.sum, M0.sum, ← e]
    show _ = _ - (freeTot ps m f k + freeSum (bund ps m k) f)
    omega
  · rw [Nat.succ_mul] at ha
    obtain ⟨i, z, h1, h2, h3⟩ := M.off at_ (by omega) hq
    have hmem : z ∈ prs ps m k := hp.mem_iff.mp (List.mem_of_getElem? h2)
    obtain ⟨i', hi, e⟩ := List.mem_map.mp hmem
    have hi := List.mem_range.mp hi
    have e2 : z.2 = (ps.length : Int) - ((k * m + i' : Nat) : Int) := by rw [← e]
    omega
theorem ixN_nat {n j : Nat} (h : j < n) : ixN n (j : Int) = some j := by
  unfold ixN
  rw [if_pos (by omega), if_pos (by omega)]
  simp
theorem lexB_fst {x y : Int × Int} (h : SrtO.lexB y x = false) : x.1 ≤ y.1 := by
  have := SrtO.lexB_no.mp h
  omega
theorem small15 {n : Nat} (h : n < 100) : n < sizeLine := by rw [sizeLine_eq]; omega

theorem sc_marked : FnScope ["prices", "deal", "found", "many", "free", "begin", "bundle", "price", "back", "at"] ["prices", "deal"] (defScope sMarked) := ⟨rfl, rfl, rfl, by decide +kernel, rfl, by decide +kernel, by decide +kernel⟩

def sp_marked : Sp := sp2 fun a d H Q => ∃ l ps dl, a = .ref l ∧ H l = some (.lst (ps.map V.int)) ∧ WoAt H d dl ∧ WoOk .deal dl ∧ ps.length < 15 ∧ ∀ q bs H', Same H H' → H q = none → H' q = some (.lst (bs.map V.bl)) → bs.length = ps.length → sumU ps bs = unm ps (dOf dl) → Q (.ref q) H'
theorem has_marked (T : Tx K mg) : Has P w K mg base "marked" 1 ["prices", "deal"] (sp_marked) := by
  have g_nd := sc_marked.nd
  refine T.d_marked.has sc_marked (fun _ _ _ _ _ _ us hl => match us, hl with | [_, _], _ => rfl) sp2_len (fun cdv A outer s H vs Q E hr h => ?_)
  obtain ⟨a0, a1, rfl, h⟩ := h
  obtain ⟨l, ps, dl, rfl, hl, hd, hok, hlen, k⟩ := h
  refine ⟨_, (pss_cons (ps_setLc (i := 2) (own := [("price", 7)]) (tt := tYes) (g := gName 7) rfl g_nd rfl rfl (sw_true rfl rfl rfl (by decide +kernel)) (pi_list (pv 0)) (blkOk_by (own := [("price", 7)]) (N := ["prices", "deal", "found", "many", "free", "begin", "bundle", "price", "back", "at"]) (sc := defScope sMarked) (by decide +kernel)) (fun _ _ _ _ _ => (pg_name (i := 7) g_nd rfl (by first | exact Or.inl rfl | exact Or.inr rfl))) (fun _ _ _ _ _ => pts_nil) (fun _ _ _ _ _ => pe_bl))
        (pss_cons (ps_if (pt_cmpR op_isN (pv 1) pe_non (nomark _)) (pss_one (ps_ret (pv 2))) pss_nil)
        (pss_cons (ps_asg (pv 1) (pg_tup rfl (pgs_cons (pg_name (i := 3) g_nd rfl (by first | exact Or.inl rfl | exact Or.inr rfl)) (pgs_cons (pg_name (i := 4) g_nd rfl (by first | exact Or.inl rfl | exact Or.inr rfl)) pgs_nil))))
        (pss_cons (ps_for PassesOwn.never rfl (pi_range3 (by rfl) T.b_range (pa_cons pe_int (pa_cons (pe_op op_add (pe_op op_sub (pe_callB (r := rLenS K) (id := "len") clen (by rfl) T.b_len (by decide +kernel) (pa_cons (pv 0) pa_nil)) (pv 3)) pe_int) (pa_cons (pv 3) pa_nil)))) (pg_name (i := 5) g_nd rfl (by first | exact Or.inl rfl | exact Or.inr rfl)) (pss_cons (ps_set (i := 6) g_nd rfl (by first | exact Or.inl rfl | exact Or.inr rfl) (pe_callB cr_sortedPO (by rfl) T.b_sorted (by decide +kernel) (pa_cons (pe_lc (own := [("at", 9)]) (tt := tYes) (g := gName 9) rfl g_nd (pi_range2 (by rfl) T.b_range (pa_cons (pv 5) (pa_cons (pe_op op_add (pv 5) (pv 3)) pa_nil))) (blkOk_by (own := [("at", 9)]) (N := ["prices", "deal", "found", "many", "free", "begin", "bundle", "price", "back", "at"]) (sc := defScope sMarked) (by decide +kernel)) (fun _ _ _ _ _ => (pg_name (i := 9) g_nd rfl (by first | exact Or.inl rfl | exact Or.inr rfl))) (fun _ _ _ _ _ => pts_nil) (fun _ _ _ _ _ => (pe_tup (pa_cons (pe_ix (r := rIxL K) ix_list (pv 0) (pv 9) (fun _ _ => rfl)) (pa_cons (pe_op op_sub (pe_callB (r := rLenS K) (id := "len") clen (by rfl) T.b_len (by decide +kernel) (pa_cons (pv 0) pa_nil)) (pv 9)) pa_nil))))) pa_nil)))
        (pss_one (ps_for PassesOwn.never rfl (pi_list (pe_slice sl_list (pv 6) po_none (po_some (pv 4)))) (pg_tup rfl (pgs_cons (pg_name (i := 7) g_nd rfl (by first | exact Or.inl rfl | exact Or.inr rfl)) (pgs_cons (pg_name (i := 8) g_nd rfl (by first | exact Or.inl rfl | exact Or.inr rfl)) pgs_nil))) (pss_one (ps_asg pe_bl (pg_sub (pv 2) (pe_op op_sub (pe_callB (r := rLenS K) (id := "len") clen (by rfl) T.b_len (by decide +kernel) (pa_cons (pv 0) pa_nil)) (pv 8)) set_list)))))))
        (pss_one (ps_ret (pv 2))))))), ?_⟩
  refine ⟨_, rfl, l, rfl, ⟨_, SqL.of hl⟩, fun D hD => ?_⟩
  have nlD : l ≠ D := ne_of_none hl hD
  refine lc_list (K := K) (a := l) (xs := ps.map V.int) (fun i Hc => Hc = upd H D (.lst (List.replicate i (.bl false)))) rfl (fun i Hc _ e => by rw [e]; exact SqL.of (by rw [upd_ne nlD]; exact hl)) ?_ ?_
  · rintro i x Hc hx rfl
    have hi := (List.getElem?_eq_some_iff.mp hx).1
    rw [List.length_map] at hi
    refine ⟨rfl, ?_⟩
    refine ⟨_, upd_same, by rw [List.length_replicate]; exact small15 (by omega), ?_⟩
    rw [upd_upd, ← List.replicate_succ']
  rintro Hc rfl
  rw [List.length_map]
  have e0 : (List.replicate ps.length (V.bl false)) = (List.replicate ps.length false).map V.bl := by rw [List.map_replicate]
  rw [e0]
  have s1 : Same H (upd H D (.lst ((List.replicate ps.length false).map V.bl))) := snewR hD
  refine ⟨_, rfl, rfl, _, rfl, ?_⟩
  cases hd with
  | non => exact iteTd rfl ⟨_, rfl, k D _ _ s1 hD upd_same (by simp) (sumU_false ps)⟩
  | int i => exact hok.elim
  | bl b => exact hok.elim
  | @two pd m f hpd =>
    refine iteFd (by simp) ?_
    obtain ⟨m0, m1, f0, f1⟩ := hok
    obtain ⟨m, rfl⟩ := Int.eq_ofNat_of_zero_le (show 0 ≤ m by omega)
    obtain ⟨f, rfl⟩ := Int.eq_ofNat_of_zero_le (show 0 ≤ f by omega)
    have hmpos : 0 < m := by omega
    refine ⟨_, rfl, pd, _, rfl, SqT.of (s1 _ _ hpd), rfl, _, _, rfl, _, _, rfl, rfl, ?_⟩
    refine ⟨_, rfl, l, _, rfl, .inl (SqL.of (s1 _ _ hl)), _, rfl, _, _, rfl, rfl, _, _, rfl, rfl, _, rfl, 0, _, _, ps.length / m, rfl, by rw [List.length_map]; exact rgc_of hlen (by omega) hmpos, ?_⟩
    refine for_rangeC (fun i σ Hc => (∃ v5 v6 v7 v8 v9, σ = [some (.ref l), some (.ref pd), some (.ref D), some (.int (m : Int)), some (.int (f : Int)), v5, v6, v7, v8, v9]) ∧ Same H Hc ∧ ∃ bs, Hc D = some (.lst (bs.map V.bl)) ∧ Mk2 ps m f i bs)
      ⟨⟨none, none, none, none, none, rfl⟩, s1, _, upd_same, by simp, by rw [sumU_false]; show ps.sum = ps.sum - 0; omega, fun at_ _ hq => ?_⟩ ?_ ?_
    · have := List.mem_of_getElem? hq
      rw [List.mem_replicate] at this
      cases this.2
    · rintro i σ Hc hi ⟨⟨v5, v6, v7, v8, v9, rfl⟩, s2, bs, hD2, M⟩
      have hkm : (i + 1) * m ≤ ps.length := Nat.le_trans (Nat.mul_le_mul_right m hi) (Nat.div_mul_le_self _ _)
      have hkm2 : i * m + m ≤ ps.length := by rw [Nat.succ_mul] at hkm; exact hkm
      have hcast : ((i * m : Nat) : Int) = (i : Int) * (m : Int) := by rw [Int.natCast_mul]
      have hl2 := s2 _ _ hl
      refine ⟨_, rfl, _, rfl, _, rfl, _, _, rfl, rfl, 0 + (i : Int) * (m : Int), 0 + (i : Int) * (m : Int) + (m : Int), rfl, ⟨by omega, by omega, by omega, by omega⟩, fun D2 hD2n => ?_⟩
      have em : (0 + (i : Int) * (m : Int) + (m : Int) - (0 + (i : Int) * (m : Int))).toNat = m := by omega
      rw [em]
      refine lc_range (lo := 0 + (i : Int) * (m : Int)) (n := m) (fun j Hx => Same Hc Hx ∧ ∃ ts : List Addr, Hx D2 = some (.lst (ts.map V.ref)) ∧ ts.length = j ∧ ∀ (j' : Nat) (t : Addr), ts[j']? = some t → Hx t = some (.tup [.int (ps.getD (i * m + j') 0), .int ((ps.length : Int) - ((i * m + j' : Nat) : Int))]))
        ⟨snewR hD2n, [], upd_same, rfl, fun j' t ht => by simp at ht⟩ ?_ ?_
      · rintro j Hx hj ⟨s3, ts, ht, htl, hts⟩
        have hl3 := s3 _ _ hl2
        have eat : (0 : Int) + (i : Int) * (m : Int) + (j : Nat) = ((i * m + j : Nat) : Int) := by omega
        refine ⟨rfl, ?_⟩
        rw [eat]
        refine ⟨_, rfl, _, rfl, l, _, ((i * m + j : Nat) : Int), .int (ps.getD (i * m + j) 0), rfl, rfl, SqL.of hl3, atI_nat ?_, ?_⟩
        · rw [List.getElem?_map, List.getD_eq_getElem?_getD, List.getElem?_eq_getElem (show i * m + j < ps.length by omega)]
          rfl
        refine ⟨_, rfl, l, _, rfl, .inl (SqL.of hl3), _, rfl, _, _, rfl, rfl, by show 2 ≤ sizeLine; decide, fun t htn => ?_⟩
        have ntD : D2 ≠ t := ne_of_none ht htn
        refine ⟨_, (by rw [upd_ne ntD]; exact ht), by rw [List.length_map, htl]; exact small15 (by omega), snew (s3.trans (snewR htn)) hD2n, ts ++ [t], ?_, by rw [List.length_append, htl]; rfl, fun j' t' ht' => ?_⟩
        · rw [upd_same, List.map_append]
          rfl
        · have ne2 : t' ≠ D2 ∧ (upd Hx t (.tup [.int (ps.getD (i * m + j) 0), .int (((ps.map V.int).length : Int) - ((i * m + j : Nat) : Int))])) t' = some (.tup [.int (ps.getD (i * m + j') 0), .int ((ps.length : Int) - ((i * m + j' : Nat) : Int))]) := by
            by_cases hjj : j' < ts.length
            · rw [List.getElem?_append_left hjj] at ht'
              have q := hts j' t' ht'
              exact ⟨ne_of q ht (by intro z; cases z), by rw [upd_ne (ne_of_none q htn)]; exact q⟩
            · rw [List.getElem?_append_right (by omega)] at ht'
              have e : j' - ts.length = 0 := by
                have := (List.getElem?_eq_some_iff.mp ht').1
                simp at this
                omega
              rw [e] at ht'
              cases ht'
              have e2 : j' = j := by omega
              rw [e2]
              exact ⟨ntD.symm, by rw [upd_same, List.length_map]⟩
          rw [upd_ne ne2.1]
          exact ne2.2
      · rintro Hx ⟨s3, ts, ht, htl, hts⟩
        have hxs : ∀ x ∈ ts.map V.ref, ∃ t, x = V.ref t ∧ Hx t = some (.tup [.int (kf Hx x).1, .int (kf Hx x).2]) := by
          intro x hx
          obtain ⟨t, hm, rfl⟩ := List.mem_map.mp hx
          obtain ⟨j', hj', e⟩ := List.mem_iff_getElem.mp hm
          have q := hts j' t (by rw [List.getElem?_eq_getElem hj', e])
          exact ⟨t, rfl, by rw [kf_at q]; exact q⟩
        refine ⟨D2, ts.map V.ref, kf Hx, rfl, SqL.of ht, hxs, fun ys B srt stb hB => ?_⟩
        have ezs : (ts.map V.ref).map (kf Hx) = prs ps m i := by
          unfold prs
          refine List.ext_getElem (by rw [List.length_map, List.length_map, List.length_map, List.length_range, htl]) fun j' h1 h2 => ?_
          rw [List.getElem_map, List.getElem_map, List.getElem_map, List.getElem_range]
          rw [List.length_map, List.length_map] at h1
          exact kf_at (hts j' _ (List.getElem?_eq_getElem h1))
        have hp : (ys.map (kf Hx)).Perm (prs ps m i) := by rw [← ezs]; exact stb.perm.map _
        have hs : (ys.map (kf Hx)).Pairwise fun x y => x.1 ≤ y.1 := List.Pairwise.map _ (fun a b h => lexB_fst h) srt
        have yl : ys.length = m := by
          have := hp.length_eq
          unfold prs at this
          rw [List.length_map, List.length_map, List.length_range] at this
          exact this
        have s4 : Same Hc (upd Hx B (.lst ys)) := s3.trans (snewR hB)
        refine ⟨_, rfl, _, rfl, _, rfl, B, ys, rfl, SqL.of upd_same, fun D3 hD3 => ?_⟩
        rw [cut_to ys (show f ≤ ys.length by omega)]
        have s5 : Same Hc (upd (upd Hx B (.lst ys)) D3 (.lst (ys.take f))) := s4.trans (snewR hD3)
        have nD3 : D3 ≠ D := (ne_of_none hD2 (s4.free hD3)).symm
        refine ⟨D3, rfl, ⟨_, SqL.of upd_same⟩, for_list (K := K) (a := D3) (xs := ys.take f) (fun j σ Hy => (∃ v7 v8, σ = [some (.ref l), some (.ref pd), some (.ref D), some (.int (m : Int)), some (.int (f : Int)), some (.int (0 + (i : Int) * (m : Int))), some (.ref B), v7, v8, v9]) ∧ Same H Hy ∧ KT Hx Hy ∧ Hy D3 = some (.lst (ys.take f)) ∧ ∃ bs', Hy D = some (.lst (bs'.map V.bl)) ∧ Mk3 ps bs (ys.map (kf Hx)) m i j bs')
          ⟨⟨_, _, rfl⟩, s2.trans s5, ?_, upd_same, bs, s5 _ _ hD2, M.first _⟩ (fun j σ Hy _ ⟨_, _, _, h, _⟩ => SqL.of h) ?_ ?_⟩
        · exact (KT.of (snewR hB)).trans (KT.of (snewR hD3))
        · rintro j x σ Hy hx ⟨⟨v7', v8', rfl⟩, s6, kt, hD3y, bs', hDy, M3⟩
          have hjf : j < f := by
            have := (List.getElem?_eq_some_iff.mp hx).1
            rw [List.length_take] at this
            omega
          rw [List.getElem?_take_of_lt hjf] at hx
          obtain ⟨t, rfl, hxt⟩ := hxs x (stb.perm.mem_iff.mp (List.mem_of_getElem? hx))
          obtain ⟨at_, e1, e2, M3'⟩ := M3.next hp hkm (z := kf Hx (.ref t)) (by rw [List.getElem?_map, hx]; rfl)
          refine ⟨t, _, rfl, SqT.of (kt _ _ hxt), rfl, _, _, rfl, _, _, rfl, rfl, ?_⟩
          refine ⟨_, rfl, _, rfl, l, _, rfl, .inl (SqL.of (s6 _ _ hl)), _, rfl, _, _, rfl, rfl, D, _, _, at_, rfl, rfl, hDy, ?_, ?_⟩
          · rw [List.length_map, List.length_map, e1, M3.len]
            exact ixN_nat e2
          · refine ⟨⟨_, _, rfl⟩, snew s6 hD, kt.trans (KT.lst hDy), ?_, bs'.set at_ true, ?_, M3'⟩
            · rw [upd_ne nD3]
              exact hD3y
            · rw [upd_same, List.map_set]
        · rintro σ Hy ⟨⟨v7', v8', rfl⟩, s6, kt, hD3y, bs', hDy, M3⟩
          have ef : (ys.take f).length = f := by rw [List.length_take]; omega
          rw [ef] at M3
          exact ⟨⟨_, _, _, _, _, rfl⟩, s6, bs', hDy, Mk3.done M M3 hp hs hkm⟩
    · rintro σ Hc ⟨⟨v5, v6, v7, v8, v9, rfl⟩, s2, bs, hD2, M⟩
      exact ⟨_, rfl, k D bs Hc s2 hD hD2 M.len (by rw [M.sum]; rfl)⟩

end
end Stp
namespace Stp
open PySem PySem.Spec PyProof.Rows L2
section
variable {P : Program} {w : World} {K : PySem.W.Frag} {mg : Str → Option Value} {base : Heap}

/-- the slots written out behind a store (else each look at a slot goes through all the stores) -/
theorem nmG {i : Nat} {v : V} {σ σ' : L2.St} {H : Hp} {Q : L2.St → Hp → Prop} (e : σ.set i (some v) = σ') (h : Q σ' H) : gName i v σ H Q := by
  subst e
  exact h
/-- a stay and its nights in bounds -/
structure StOk (x y : Int) : Prop where
  lo : 0 ≤ x
  lt : x < y
  le : y ≤ x + 14
  hi : y ≤ 1000000
theorem price_at {H : Hp} {v : V} {rs : List Rl} {d : Int} (h : WoAt H v (tel rs .price d)) (hr : ∀ r ∈ rs, r.Ok) : (∃ i, v = .int i ∧ priceO rs d = some i) ∨ (v = .non ∧ priceO rs d = none) := by
  have ok := tel_ok hr .price d
  unfold priceO
  generalize tel rs .price d = z at h ok
  cases h with
  | non => exact .inr ⟨rfl, rfl⟩
  | int i => exact .inl ⟨i, rfl, rfl⟩
  | bl b => exact ok.elim
  | two e => exact ok.elim
theorem deal_ok {rs : List Rl} {d : Int} (hr : ∀ r ∈ rs, r.Ok) : WoOk .deal (tel rs .deal d) := tel_ok hr .deal d
theorem dOf_deal (rs : List Rl) (d : Int) : dOf (tel rs .deal d) = dealO rs d := rfl
theorem fee_at {H : Hp} {v : V} {rs : List Rl} {d : Int} (h : WoAt H v (tel rs .fee d)) (hr : ∀ r ∈ rs, r.Ok) : v = .int (feeI rs d) := by
  have ok := tel_ok hr .fee d
  unfold feeI
  generalize tel rs .fee d = z at h ok
  cases h with
  | int i => rfl
  | non => exact ok.elim
  | bl b => exact ok.elim
  | two e => exact ok.elim
theorem least_at {H : Hp} {v : V} {rs : List Rl} {d : Int} (h : WoAt H v (tel rs .least d)) (hr : ∀ r ∈ rs, r.Ok) : v = .int (leastI rs d) := by
  have ok := tel_ok hr .least d
  unfold leastI
  generalize tel rs .least d = z at h ok
  cases h with
  | int i => rfl
  | non => exact ok.elim
  | bl b => exact ok.elim
  | two e => exact ok.elim
theorem most_at {H : Hp} {v : V} {rs : List Rl} {d : Int} (h : WoAt H v (tel rs .most d)) (hr : ∀ r ∈ rs, r.Ok) : v = .int (mostI rs d) := by
  have ok := tel_ok hr .most d
  unfold mostI
  generalize tel rs .most d = z at h ok
  cases h with
  | int i => rfl
  | non => exact ok.elim
  | bl b => exact ok.elim
  | two e => exact ok.elim
theorem come_at {H : Hp} {v : V} {rs : List Rl} {d : Int} (h : WoAt H v (tel rs .come d)) (hr : ∀ r ∈ rs, r.Ok) : v = .bl (comeB rs d) := by
  have ok := tel_ok hr .come d
  unfold comeB
  generalize tel rs .come d = z at h ok
  cases h with
  | bl b => rfl
  | non => exact ok.elim
  | int i => exact ok.elim
  | two e => exact ok.elim
theorem go_at {H : Hp} {v : V} {rs : List Rl} {d : Int} (h : WoAt H v (tel rs .go d)) (hr : ∀ r ∈ rs, r.Ok) : v = .bl (goB rs d) := by
  have ok := tel_ok hr .go d
  unfold goB
  generalize tel rs .go d = z at h ok
  cases h with
  | bl b => rfl
  | non => exact ok.elim
  | int i => exact ok.elim
  | two e => exact ok.elim
theorem canB_price {rs : List Rl} {b e n : Int} (h : canB rs b e = true) (hn : n ∈ rg b e) : ∃ i, priceO rs n = some i := by
  unfold canB at h
  have h2 := (Bool.and_eq_true_iff.mp (Bool.and_eq_true_iff.mp h).2).2
  exact Option.isSome_iff_exists.mp (List.all_eq_true.mp h2 n hn)
theorem sumU_take : ∀ {ps : List Int} {bs : List Bool} {i : Nat} {p : Int} {b : Bool}, ps[i]? = some p → bs[i]? = some b → sumU (ps.take (i + 1)) (bs.take (i + 1)) = sumU (ps.take i) (bs.take i) + (if b = true then 0 else p)
  | [], _, _, _, _, h, _ => by simp at h
  | _ :: _, [], _, _, _, _, h => by simp at h
  | q :: ps, c :: bs, 0, p, b, h1, h2 => by
    have e1 : q = p := Option.some.inj h1
    have e2 : c = b := Option.some.inj h2
    subst e1 e2
    show (if c = true then 0 else q) + 0 = 0 + (if c = true then 0 else q)
    omega
  | q :: ps, c :: bs, i + 1, p, b, h1, h2 => by
    have ih := sumU_take (ps := ps) (bs := bs) (i := i) (p := p) (b := b) h1 h2
    show (if c = true then 0 else q) + sumU (ps.take (i + 1)) (bs.take (i + 1)) = ((if c = true then 0 else q) + sumU (ps.take i) (bs.take i)) + _
    rw [ih]
    omega
/-- a book at an address, as a method's receiver -/
theorem BkAt.ins {K : PySem.W.Frag} {H : Hp} {b : Addr} {rs : List Rl} (h : BkAt K H b rs) : ∃ dx kp nw, H b = some (.ins (He.ga K "Book") dx (BkFl kp nw)) := by
  obtain ⟨⟨dx, kp, nw, _, _, h1, _⟩, _⟩ := h
  exact ⟨dx, kp, nw, h1⟩

theorem sc_bill : FnScope ["book", "stay", "nights", "prices", "marks", "fee", "rows", "night", "k", "coins", "free"] ["book", "stay"] (defScope sBill) := ⟨rfl, rfl, rfl, by decide +kernel, rfl, by decide +kernel, by decide +kernel⟩

def sp_bill (K : PySem.W.Frag) : Sp := sp2 fun a s H Q => ∃ b p rs x y, a = .ref b ∧ s = .ref p ∧ H p = some (.tup [.int x, .int y]) ∧ BkAt K H b rs ∧ StOk x y ∧ canB rs x y = true ∧ ∀ q v2 v3 H', Same H H' → H' q = some (.tup [.int (billI rs x y), v2, v3]) → Q (.ref q) H'
theorem has_bill (T : Tx K mg) : Has P w K mg base "bill" 3 ["book", "stay"] (sp_bill K) := by
  have g_nights_of := has_nights_of (P := P) (w := w) (base := base) T
  have g_marked := has_marked (P := P) (w := w) (base := base) T
  have m_tells_of := has_tells_of (P := P) (w := w) (base := base) T
  have g_nd := sc_bill.nd
  refine T.d_bill.has sc_bill (fun _ _ _ _ _ _ us hl => match us, hl with | [_, _], _ => rfl) sp2_len (fun cdv A outer s H vs Q E hr h => ?_)
  obtain ⟨a0, a1, rfl, h⟩ := h
  obtain ⟨b, p, rs, x, y, rfl, rfl, hp, hb, ho, hcan, k⟩ := h
  refine ⟨_, (pss_cons (ps_set (i := 2) g_nd rfl (by first | exact Or.inl rfl | exact Or.inr rfl) (pcall g_nights_of (hr.mono (by decide)) (by rfl) (pa_cons (pv 1) pa_nil)))
        (pss_cons (ps_set (i := 3) g_nd rfl (by first | exact Or.inl rfl | exact Or.inr rfl) (pe_lc (own := [("night", 7)]) (tt := tYes) (g := gName 7) rfl g_nd (pi_list (pv 2)) (blkOk_by (own := [("night", 7)]) (N := ["book", "stay", "nights", "prices", "marks", "fee", "rows", "night", "k", "coins", "free"]) (sc := defScope sBill) (by decide +kernel)) (fun _ _ _ _ _ => (pg_name (i := 7) g_nd rfl (by first | exact Or.inl rfl | exact Or.inr rfl))) (fun _ _ _ _ _ => pts_nil) (fun _ _ _ _ _ => (pmeth (pv 0) m_tells_of (hr.mono (by decide)) (pa_cons pe_str (pa_cons (pv 7) pa_nil))))))
        (pss_cons (ps_if (pt_cmpR (r := rIn K false) op_in_seq pe_non (pv 3) (by rfl)) (pss_one ps_never) pss_nil)
        (pss_cons (ps_set (i := 4) g_nd rfl (by first | exact Or.inl rfl | exact Or.inr rfl) (pcall g_marked (hr.mono (by decide)) (by rfl) (pa_cons (pv 3) (pa_cons (pmeth (pv 0) m_tells_of (hr.mono (by decide)) (pa_cons pe_str (pa_cons (pe_ix (r := rIxT K) ix_tup (pv 1) pe_int (fun _ _ => rfl)) pa_nil))) pa_nil))))
        (pss_cons (ps_set (i := 5) g_nd rfl (by first | exact Or.inl rfl | exact Or.inr rfl) (pmeth (pv 0) m_tells_of (hr.mono (by decide)) (pa_cons pe_str (pa_cons (pe_ix (r := rIxT K) ix_tup (pv 1) pe_int (fun _ _ => rfl)) pa_nil))))
        (pss_cons (ps_setLc (i := 6) (own := [("k", 8)]) (tt := tYes) (g := gName 8) rfl g_nd rfl rfl (sw_true rfl rfl rfl (by decide +kernel)) (pi_range1 (by rfl) T.b_range (pa_cons (pe_callB (r := rLenS K) (id := "len") clen (by rfl) T.b_len (by decide +kernel) (pa_cons (pv 2) pa_nil)) pa_nil)) (blkOk_by (own := [("k", 8)]) (N := ["book", "stay", "nights", "prices", "marks", "fee", "rows", "night", "k", "coins", "free"]) (sc := defScope sBill) (by decide +kernel)) (fun _ _ _ _ _ => (pg_name (i := 8) g_nd rfl (by first | exact Or.inl rfl | exact Or.inr rfl))) (fun _ _ _ _ _ => pts_nil) (fun _ _ _ _ _ => (pe_tup (pa_cons (pe_ix (r := rIxL K) ix_list (pv 2) (pv 8) (fun _ _ => rfl)) (pa_cons (pe_ix (r := rIxL K) ix_list (pv 3) (pv 8) (fun _ _ => rfl)) (pa_cons (pe_ix (r := rIxL K) ix_list (pv 4) (pv 8) (fun _ _ => rfl)) pa_nil))))))
        (pss_one (ps_ret (pe_tup (pa_cons (pe_op op_add (pv 5) (pe_callB (cr_sum rfl) (by rfl) T.b_sum (by decide +kernel) (pa_cons (pe_lc (own := [("night", 7), ("coins", 9), ("free", 10)]) (g := gTup K 3 (gCons (gName 7) (gCons (gName 9) (gCons (gName 10) gNil)))) rfl g_nd (pi_list (pv 6)) (blkOk_by (own := [("night", 7), ("coins", 9), ("free", 10)]) (N := ["book", "stay", "nights", "prices", "marks", "fee", "rows", "night", "k", "coins", "free"]) (sc := defScope sBill) (by decide +kernel)) (fun _ _ _ _ _ => (pg_tup rfl (pgs_cons (pg_name (i := 7) g_nd rfl (by first | exact Or.inl rfl | exact Or.inr rfl)) (pgs_cons (pg_name (i := 9) g_nd rfl (by first | exact Or.inl rfl | exact Or.inr rfl)) (pgs_cons (pg_name (i := 10) g_nd rfl (by first | exact Or.inl rfl | exact Or.inr rfl)) pgs_nil))))) (fun _ _ _ _ _ => (pts_one (pt_not (pt_val (pv 10))))) (fun _ _ _ _ _ => (pv 9))) pa_nil))) (pa_cons (pv 6) (pa_cons (pv 5) pa_nil)))))))))))), ?_⟩
  have hrs := hb.ok
  have nlen : (rg x y).length = (y - x).toNat := rg_length x y
  have nsm : (y - x).toNat < 15 := by have := ho.le; omega
  -- nights = nights_of(stay)
  refine ⟨_, rfl, _, rfl, p, x, y, rfl, hp, ho.lo, by have := ho.lt; omega, ho.hi, fun qn hqn => ?_⟩
  rw [rgV_eq]
  refine nmG (σ' := [some (.ref b), some (.ref p), some (.ref qn), none, none, none, none, none, none, none, none]) rfl ?_
  have s1 : Same H (upd H qn (.lst ((rg x y).map V.int))) := snewR hqn
  -- prices = [..]
  refine ⟨_, rfl, qn, rfl, ⟨_, SqL.of upd_same⟩, fun D hD => ?_⟩
  have hD0 : H D = none := s1.free hD
  have nqD : qn ≠ D := ne_of_none upd_same hD
  refine lc_list (K := K) (a := qn) (xs := (rg x y).map V.int) (fun i Hc => Same (upd H qn (.lst ((rg x y).map V.int))) Hc ∧ Hc D = some (.lst (((prices rs x y).take i).map V.int)))
    ⟨snewR hD, upd_same⟩ (fun i Hc _ ⟨s, _⟩ => SqL.of (s _ _ upd_same)) ?_ ?_
  · rintro i z Hc hz ⟨s2, hDc⟩
    have hi : i < (y - x).toNat := by
      have := (List.getElem?_eq_some_iff.mp hz).1
      rw [List.length_map, nlen] at this
      exact this
    rw [List.getElem?_map, rg_get hi] at hz
    cases hz
    refine ⟨rfl, ?_⟩
    obtain ⟨dx, kp, nw, hi1⟩ := (hb.mono (s1.trans s2)).ins
    refine ⟨_, rfl, b, dx, _, rfl, hi1, bkFl_tells _ _, _, rfl, _, _, _, rfl, b, .price, _, rs, rfl, rfl, rfl, hb.mono (s1.trans s2), fun v H4 s3 hv => ?_⟩
    obtain ⟨c, hc⟩ := canB_price hcan (mem_rg.mpr (⟨by omega, by omega⟩ : x ≤ x + (i : Nat) ∧ x + (i : Nat) < y))
    rcases price_at hv hrs with ⟨c', rfl, hc'⟩ | ⟨_, hn⟩
    · rw [hc] at hc'
      cases hc'
      refine ⟨_, s3 _ _ hDc, by rw [List.length_map, List.length_take, prices_length]; exact small15 (by omega), snew (s2.trans s3) hD, ?_⟩
      rw [upd_same, List.take_succ, List.map_append]
      have e : (prices rs x y)[i]? = some c := by
        unfold prices
        rw [List.getElem?_map, rg_get hi]
        show some ((priceO rs (x + (i : Nat))).getD 0) = some c
        rw [hc]
        rfl
      rw [e]
      rfl
    · rw [hc] at hn
      cases hn
  rintro Hc ⟨s2, hDc⟩
  rw [List.length_map, nlen, show (y - x).toNat = (prices rs x y).length from (prices_length rs x y).symm, List.take_length] at hDc
  have s02 : Same H Hc := s1.trans s2
  refine nmG (σ' := [some (.ref b), some (.ref p), some (.ref qn), some (.ref D), none, none, none, none, none, none, none]) rfl ?_
  -- if None in prices
  refine ⟨_, rfl, D, _, rfl, .inl (SqL.of hDc), rfl, List.all_eq_true.mpr fun z hz => ?_, _, rfl, ?_⟩
  · obtain ⟨i, _, rfl⟩ := List.mem_map.mp hz
    rfl
  have enone : inV .non ((prices rs x y).map V.int) = false := by
    unfold inV
    rw [List.any_eq_false]
    intro z hz
    obtain ⟨i, _, rfl⟩ := List.mem_map.mp hz
    exact Bool.false_ne_true
  rw [enone]
  refine iteF ?_
  -- marks = marked(prices, book.tells_of("deal", stay[0]))
  obtain ⟨dx, kp, nw, hi1⟩ := (hb.mono s02).ins
  refine ⟨_, rfl, _, rfl, b, dx, _, rfl, hi1, bkFl_tells _ _, _, rfl, p, _, _, _, rfl, rfl, SqT.of (s02 _ _ hp), rfl, _, _, _, rfl, b, .deal, _, rs, rfl, rfl, rfl, hb.mono s02, fun v H4 s3 hv => ?_⟩
  refine ⟨_, _, rfl, D, prices rs x y, _, rfl, s3 _ _ hDc, hv, deal_ok hrs, by rw [prices_length]; exact nsm, fun M bs H5 s4 hM hMv hbl hsum => ?_⟩
  have s05 : Same H H5 := s02.trans (s3.trans s4)
  refine nmG (σ' := [some (.ref b), some (.ref p), some (.ref qn), some (.ref D), some (.ref M), none, none, none, none, none, none]) rfl ?_
  have hD5 : H5 D = some (.lst ((prices rs x y).map V.int)) := s4 _ _ (s3 _ _ hDc)
  have hq5 : H5 qn = some (.lst ((rg x y).map V.int)) := s4 _ _ (s3 _ _ (s2 _ _ upd_same))
  -- fee
  obtain ⟨dx, kp, nw, hi1⟩ := (hb.mono s05).ins
  refine ⟨_, rfl, b, dx, _, rfl, hi1, bkFl_tells _ _, _, rfl, p, _, _, _, rfl, rfl, SqT.of (s05 _ _ hp), rfl, _, _, _, rfl, b, .fee, _, rs, rfl, rfl, rfl, hb.mono s05, fun v H6 s5 hv6 => ?_⟩
  cases fee_at hv6 hrs
  refine nmG (σ' := [some (.ref b), some (.ref p), some (.ref qn), some (.ref D), some (.ref M), some (.int (feeI rs x)), none, none, none, none, none]) rfl ?_
  have s06 : Same H H6 := s05.trans s5
  have hM6 := s5 _ _ hMv
  have hD6 := s5 _ _ hD5
  have hq6 := s5 _ _ hq5
  -- rows
  refine ⟨_, rfl, qn, _, rfl, .inl (SqL.of hq6), _, rfl, by omega, by rw [List.length_map, nlen]; omega, fun R hR => ?_⟩
  have eln : ((((rg x y).map V.int).length : Int)).toNat = (y - x).toNat := by rw [List.length_map, nlen]; omega
  rw [eln]
  refine lc_range (lo := 0) (n := (y - x).toNat) (fun i Hx => Same H6 Hx ∧ ∃ ts : List Addr, Hx R = some (.lst (ts.map V.ref)) ∧ ts.length = i ∧ ∀ (j : Nat) (t : Addr), ts[j]? = some t → ∃ c bb, (prices rs x y)[j]? = some c ∧ bs[j]? = some bb ∧ Hx t = some (.tup [.int (x + (j : Nat)), .int c, .bl bb]))
    ⟨snewR hR, [], upd_same, rfl, fun j t h => by simp at h⟩ ?_ ?_
  · rintro i Hx hi ⟨s7, ts, ht, htl, hts⟩
    refine ⟨rfl, ?_⟩
    have e0 : (0 : Int) + (i : Nat) = ((i : Nat) : Int) := by omega
    rw [e0]
    have hpl : i < (prices rs x y).length := by rw [prices_length]; exact hi
    have hbl2 : i < bs.length := by rw [hbl]; exact hpl
    refine ⟨_, rfl, _, rfl, qn, _, _, .int (x + (i : Nat)), rfl, rfl, SqL.of (s7 _ _ hq6), atI_nat (by rw [List.getElem?_map, rg_get hi]; rfl), ?_⟩
    refine ⟨_, rfl, _, rfl, D, _, _, .int ((prices rs x y)[i]), rfl, rfl, SqL.of (s7 _ _ hD6), atI_nat (by rw [List.getElem?_map, List.getElem?_eq_getElem hpl]; rfl), ?_⟩
    refine ⟨_, rfl, _, rfl, M, _, _, .bl (bs[i]), rfl, rfl, SqL.of (s7 _ _ hM6), atI_nat (by rw [List.getElem?_map, List.getElem?_eq_getElem hbl2]; rfl), by show 3 ≤ sizeLine; decide, fun t htn => ?_⟩
    have ntD : R ≠ t := ne_of_none ht htn
    refine ⟨_, (by rw [upd_ne ntD]; exact ht), by rw [List.length_map, htl]; exact small15 (by omega), snew (s7.trans (snewR htn)) hR, ts ++ [t], ?_, by rw [List.length_append, htl]; rfl, fun j' t' ht' => ?_⟩
    · rw [upd_same, List.map_append]
      rfl
    · by_cases hjj : j' < ts.length
      · rw [List.getElem?_append_left hjj] at ht'
        obtain ⟨c, bb, q1, q2, q3⟩ := hts j' t' ht'
        exact ⟨c, bb, q1, q2, by rw [upd_ne (ne_of q3 ht (by intro z; cases z)), upd_ne (ne_of_none q3 htn)]; exact q3⟩
      · rw [List.getElem?_append_right (by omega)] at ht'
        have e : j' - ts.length = 0 := by
          have := (List.getElem?_eq_some_iff.mp ht').1
          simp at this
          omega
        rw [e] at ht'
        cases ht'
        have e2 : j' = i := by omega
        subst e2
        exact ⟨_, _, List.getElem?_eq_getElem hpl, List.getElem?_eq_getElem hbl2, by rw [upd_ne ntD.symm, upd_same]⟩
  rintro H7 ⟨s7, ts, ht, htl, hts⟩
  have s07 : Same H H7 := s06.trans s7
  refine nmG (σ' := [some (.ref b), some (.ref p), some (.ref qn), some (.ref D), some (.ref M), some (.int (feeI rs x)), some (.ref R), none, none, none, none]) rfl ?_
  -- the sum
  refine ⟨_, rfl, _, rfl, R, rfl, ⟨_, SqL.of ht⟩, fun D2 hD2 => ?_⟩
  refine lc_list (K := K) (a := R) (xs := ts.map V.ref) (fun i Hx => Same H7 Hx ∧ ∃ acc : List Int, Hx D2 = some (.lst (acc.map V.int)) ∧ acc.length ≤ i ∧ acc.sum = sumU ((prices rs x y).take i) (bs.take i))
    ⟨snewR hD2, [], upd_same, Nat.le_refl _, by simp [sumU]⟩ (fun i Hx _ ⟨s8, _⟩ => SqL.of (s8 _ _ ht)) ?_ ?_
  · rintro i z Hx hz ⟨s8, acc, ha, hal, hasum⟩
    obtain ⟨t, htt, rfl⟩ : ∃ t, ts[i]? = some t ∧ z = V.ref t := by
      rw [List.getElem?_map] at hz
      cases e : ts[i]? with
      | none => rw [e] at hz; cases hz
      | some y => rw [e] at hz; exact ⟨y, rfl, (Option.some.inj hz).symm⟩
    obtain ⟨c, bb, q1, q2, q3⟩ := hts i t htt
    have hi : i < 15 := by
      have := (List.getElem?_eq_some_iff.mp htt).1
      omega
    refine ⟨t, _, rfl, SqT.of (s8 _ _ q3), rfl, _, _, rfl, _, _, rfl, _, _, rfl, rfl, rfl, ?_⟩
    refine ⟨_, rfl, _, rfl, ?_⟩
    cases bb with
    | true => exact iteF ⟨s8, acc, ha, Nat.le_succ_of_le hal, by rw [sumU_take q1 q2, hasum, if_pos rfl]; omega⟩
    | false =>
      refine iteT ⟨_, rfl, _, ha, by rw [List.length_map]; exact small15 (by omega), snew s8 hD2, acc ++ [c], by rw [upd_same, List.map_append]; rfl, by rw [List.length_append]; exact Nat.succ_le_succ hal, ?_⟩
      rw [sumU_take q1 q2, List.sum_append, hasum, if_neg Bool.false_ne_true]
      simp
  rintro H8 ⟨s8, acc, ha, hal, hasum⟩
  have e8 : sumU ((prices rs x y).take (ts.map V.ref).length) (bs.take (ts.map V.ref).length) = unm (prices rs x y) (dealO rs x) := by
    have e1 : (ts.map V.ref).length = (prices rs x y).length := by rw [List.length_map, htl, prices_length]
    have e2 : bs.take (prices rs x y).length = bs := by rw [← hbl, List.take_length]
    rw [e1, List.take_length, e2, hsum, dOf_deal]
  rw [e8] at hasum
  refine ⟨D2, acc, rfl, SqL.of ha, _, _, rfl, rfl, _, rfl, _, rfl, by show 3 ≤ sizeLine; decide, fun q hq => ?_⟩
  refine k q (.ref R) (.int (feeI rs x)) _ ((s07.trans s8).trans (snewR hq)) ?_
  rw [upd_same, hasum]
  rfl

end
end Stp
namespace Stp
open PySem PySem.Spec PyProof.Rows L2
section
variable {P : Program} {w : World} {K : PySem.W.Frag} {mg : Str → Option Value} {base : Heap}

theorem canB_iff {rs : List Rl} {b e : Int} : canB rs b e = true ↔ leastI rs b ≤ e - b ∧ e - b ≤ mostI rs b ∧ comeB rs b = true ∧ goB rs e = true ∧ ∀ n ∈ rg b e, (priceO rs n).isSome = true := by
  unfold canB
  simp only [Bool.and_eq_true, decide_eq_true_eq, List.all_eq_true]
  exact ⟨fun ⟨⟨h1, h2⟩, ⟨h3, h4⟩, h5⟩ => ⟨h1, h2, h3, h4, h5⟩, fun ⟨h1, h2, h3, h4, h5⟩ => ⟨⟨h1, h2⟩, ⟨h3, h4⟩, h5⟩⟩
theorem canB_no {rs : List Rl} {b e : Int} (h : ¬ (leastI rs b ≤ e - b ∧ e - b ≤ mostI rs b ∧ comeB rs b = true ∧ goB rs e = true ∧ ∀ n ∈ rg b e, (priceO rs n).isSome = true)) : canB rs b e = false := by
  cases z : canB rs b e with
  | false => rfl
  | true => exact absurd (canB_iff.mp z) h

theorem sc_can_be_had : FnScope ["book", "stay", "come", "go", "night"] ["book", "stay"] (defScope sCanBeHad) := ⟨rfl, rfl, rfl, by decide +kernel, rfl, by decide +kernel, by decide +kernel⟩

def sp_can_be_had (K : PySem.W.Frag) : Sp := sp2 fun a s H Q => ∃ b p rs x y, a = .ref b ∧ s = .ref p ∧ H p = some (.tup [.int x, .int y]) ∧ BkAt K H b rs ∧ StOk x y ∧ ∀ H', Same H H' → Q (.bl (canB rs x y)) H'
theorem has_can_be_had (T : Tx K mg) : Has P w K mg base "can_be_had" 3 ["book", "stay"] (sp_can_be_had K) := by
  have g_nights_of := has_nights_of (P := P) (w := w) (base := base) T
  have m_tells_of := has_tells_of (P := P) (w := w) (base := base) T
  have g_nd := sc_can_be_had.nd
  refine T.d_can_be_had.has sc_can_be_had (fun _ _ _ _ _ _ us hl => match us, hl with | [_, _], _ => rfl) sp2_len (fun cdv A outer s H vs Q E hr h => ?_)
  obtain ⟨a0, a1, rfl, h⟩ := h
  obtain ⟨b, p, rs, x, y, rfl, rfl, hp, hb, ho, k⟩ := h
  refine ⟨_, (pss_cons (ps_asg (pv 1) (pg_tup rfl (pgs_cons (pg_name (i := 2) g_nd rfl (by first | exact Or.inl rfl | exact Or.inr rfl)) (pgs_cons (pg_name (i := 3) g_nd rfl (by first | exact Or.inl rfl | exact Or.inr rfl)) pgs_nil))))
        (pss_cons (ps_if (pt_not (pt_chain op_le op_le (pmeth (pv 0) m_tells_of (hr.mono (by decide)) (pa_cons pe_str (pa_cons (pv 2) pa_nil))) (pe_op op_sub (pv 3) (pv 2)) (pmeth (pv 0) m_tells_of (hr.mono (by decide)) (pa_cons pe_str (pa_cons (pv 2) pa_nil))))) (pss_one (ps_ret pe_bl)) pss_nil)
        (pss_cons (ps_if (PW.pt (pw_or (pt_not (pt_val (pmeth (pv 0) m_tells_of (hr.mono (by decide)) (pa_cons pe_str (pa_cons (pv 2) pa_nil))))) (pw_or1 (pt_not (pt_val (pmeth (pv 0) m_tells_of (hr.mono (by decide)) (pa_cons pe_str (pa_cons (pv 3) pa_nil)))))))) (pss_one (ps_ret pe_bl)) pss_nil)
        (pss_cons (ps_for PassesOwn.never rfl (pi_list (pcall g_nights_of (hr.mono (by decide)) (by rfl) (pa_cons (pv 1) pa_nil))) (pg_name (i := 4) g_nd rfl (by first | exact Or.inl rfl | exact Or.inr rfl)) (pss_one (ps_if (pt_cmpR op_isN (pmeth (pv 0) m_tells_of (hr.mono (by decide)) (pa_cons pe_str (pa_cons (pv 4) pa_nil))) pe_non (nomark _)) (pss_one (ps_ret pe_bl)) pss_nil)))
        (pss_one (ps_ret pe_bl)))))), ?_⟩
  have hrs := hb.ok
  have s0 := Same.refl H
  refine ⟨_, rfl, p, _, rfl, SqT.of hp, rfl, _, _, rfl, _, _, rfl, rfl, ?_⟩
  -- least
  obtain ⟨dx, kp, nw, hi1⟩ := (hb.mono s0).ins
  refine ⟨_, rfl, b, dx, _, rfl, hi1, bkFl_tells _ _, _, rfl, _, _, _, rfl, b, .least, _, rs, rfl, rfl, rfl, hb.mono s0, fun v H1 s1 hv => ?_⟩
  cases least_at hv hrs
  refine ⟨_, rfl, _, rfl, _, _, rfl, rfl, _, _, rfl, rfl, _, rfl, ?_⟩
  refine ite2 (fun q1 => ?_) (fun q1 => ?_)
  rotate_left
  · have q2 : ¬ leastI rs x ≤ y - x := fun z => q1 (decide_eq_true z)
    refine ⟨_, rfl, iteT ?_⟩
    have e : canB rs x y = false := canB_no fun z => q2 z.1
    rw [e] at k
    exact k H1 s1
  have q2 : leastI rs x ≤ y - x := of_decide_eq_true q1
  have s01 := s0.trans s1
  -- most
  obtain ⟨dx, kp, nw, hi1⟩ := (hb.mono s01).ins
  refine ⟨_, rfl, b, dx, _, rfl, hi1, bkFl_tells _ _, _, rfl, _, _, _, rfl, b, .most, _, rs, rfl, rfl, rfl, hb.mono s01, fun v H2 s2 hv => ?_⟩
  cases most_at hv hrs
  have s02 := s01.trans s2
  refine ⟨_, _, rfl, rfl, _, rfl, ?_⟩
  by_cases q3 : y - x ≤ mostI rs x
  rotate_left
  · refine iteTn q3 ?_
    have e : canB rs x y = false := canB_no fun z => q3 z.2.1
    rw [e] at k
    exact k H2 s02
  refine iteFn q3 ?_
  -- come
  obtain ⟨dx, kp, nw, hi1⟩ := (hb.mono s02).ins
  refine ⟨_, rfl, b, dx, _, rfl, hi1, bkFl_tells _ _, _, rfl, _, _, _, rfl, b, .come, _, rs, rfl, rfl, rfl, hb.mono s02, fun v H3 s3 hv => ?_⟩
  cases come_at hv hrs
  have s03 := s02.trans s3
  refine ⟨_, rfl, ?_⟩
  cases q4 : comeB rs x with
  | false =>
    refine iteT (iteT ?_)
    have e : canB rs x y = false := canB_no fun z => by
      rw [z.2.2.1] at q4
      cases q4
    rw [e] at k
    exact k H3 s03
  | true =>
    refine iteF ?_
    obtain ⟨dx, kp, nw, hi1⟩ := (hb.mono s03).ins
    refine ⟨_, rfl, b, dx, _, rfl, hi1, bkFl_tells _ _, _, rfl, _, _, _, rfl, b, .go, _, rs, rfl, rfl, rfl, hb.mono s03, fun v H4 s4 hv => ?_⟩
    cases go_at hv hrs
    have s04 := s03.trans s4
    refine ⟨_, rfl, ?_⟩
    cases q5 : goB rs y with
    | false =>
      refine iteT ?_
      have e : canB rs x y = false := canB_no fun z => by
        rw [z.2.2.2.1] at q5
        cases q5
      rw [e] at k
      exact k H4 s04
    | true =>
      refine iteF ?_
      refine ⟨_, rfl, _, rfl, p, x, y, rfl, s04 _ _ hp, ho.lo, by have := ho.lt; omega, ho.hi, fun qn hqn => ?_⟩
      rw [rgV_eq]
      have s5 : Same H (upd H4 qn (.lst ((rg x y).map V.int))) := s04.trans (snewR hqn)
      refine ⟨qn, rfl, ⟨_, SqL.of upd_same⟩, for_list (K := K) (a := qn) (xs := (rg x y).map V.int) (fun i σ Hc => (∃ v4, σ = [some (.ref b), some (.ref p), some (.int x), some (.int y), v4]) ∧ Same (upd H4 qn (.lst ((rg x y).map V.int))) Hc ∧ ∀ j : Nat, j < i → (priceO rs (x + (j : Nat))).isSome = true)
        ⟨⟨none, rfl⟩, Same.refl _, fun j hj => absurd hj (Nat.not_lt_zero _)⟩ (fun i σ Hc _ ⟨_, s, _⟩ => SqL.of (s _ _ upd_same)) ?_ ?_⟩
      · rintro i z σ Hc hz ⟨⟨v4, rfl⟩, s6, hpr⟩
        have hi : i < (y - x).toNat := by
          have := (List.getElem?_eq_some_iff.mp hz).1
          rw [List.length_map, rg_length] at this
          exact this
        rw [List.getElem?_map, rg_get hi] at hz
        cases hz
        have s06 := s5.trans s6
        obtain ⟨dx, kp, nw, hi1⟩ := (hb.mono s06).ins
        refine ⟨_, rfl, b, dx, _, rfl, hi1, bkFl_tells _ _, _, rfl, _, _, _, rfl, b, .price, _, rs, rfl, rfl, rfl, hb.mono s06, fun v H7 s7 hv => ?_⟩
        have s07 := s06.trans s7
        rcases price_at hv hrs with ⟨c, rfl, hc⟩ | ⟨rfl, hn⟩
        · refine ⟨rfl, _, rfl, iteFd (by simp) ⟨⟨_, rfl⟩, s6.trans s7, fun j hj => ?_⟩⟩
          rcases Nat.lt_succ_iff_lt_or_eq.mp hj with q | q
          · exact hpr j q
          · subst q
            rw [hc]
            rfl
        · refine ⟨rfl, _, rfl, iteTd rfl ?_⟩
          have e : canB rs x y = false := canB_no fun z => by
            have := z.2.2.2.2 (x + (i : Nat)) (mem_rg.mpr ⟨by omega, by omega⟩)
            rw [hn] at this
            cases this
          rw [e] at k
          exact k H7 s07
      · rintro σ Hc ⟨⟨v4, rfl⟩, s6, hpr⟩
        have e : canB rs x y = true := canB_iff.mpr ⟨q2, q3, q4, q5, fun n hn => by
          obtain ⟨h1, h2⟩ := mem_rg.mp hn
          have := hpr (n - x).toNat (by rw [List.length_map, rg_length]; omega)
          have e2 : x + (((n - x).toNat : Nat) : Int) = n := by omega
          rw [e2] at this
          exact this⟩
        rw [e] at k
        exact k Hc (s5.trans s6)

def optV : Option Int → V
  | some c => .int c
  | none => .non

theorem sc_coins_of : FnScope ["book", "stay"] ["book", "stay"] (defScope sCoinsOf) := ⟨rfl, rfl, rfl, by decide +kernel, rfl, by decide +kernel, by decide +kernel⟩

def sp_coins_of (K : PySem.W.Frag) : Sp := sp2 fun a s H Q => ∃ b p rs x y, a = .ref b ∧ s = .ref p ∧ H p = some (.tup [.int x, .int y]) ∧ BkAt K H b rs ∧ StOk x y ∧ ∀ H', Same H H' → Q (optV (costO rs x y)) H'
theorem has_coins_of (T : Tx K mg) : Has P w K mg base "coins_of" 4 ["book", "stay"] (sp_coins_of K) := by
  have g_can_be_had := has_can_be_had (P := P) (w := w) (base := base) T
  have g_bill := has_bill (P := P) (w := w) (base := base) T
  have g_nd := sc_coins_of.nd
  refine T.d_coins_of.has sc_coins_of (fun _ _ _ _ _ _ us hl => match us, hl with | [_, _], _ => rfl) sp2_len (fun cdv A outer s H vs Q E hr h => ?_)
  obtain ⟨a0, a1, rfl, h⟩ := h
  obtain ⟨b, p, rs, x, y, rfl, rfl, hp, hb, ho, k⟩ := h
  refine ⟨_, (pss_cons (ps_if (pt_not (pt_val (pcall g_can_be_had (hr.mono (by decide)) (by rfl) (pa_cons (pv 0) (pa_cons (pv 1) pa_nil))))) (pss_one (ps_ret pe_non)) pss_nil)
        (pss_one (ps_ret (pe_ix (r := rIxT K) ix_tup (pcall g_bill (hr.mono (by decide)) (by rfl) (pa_cons (pv 0) (pa_cons (pv 1) pa_nil))) pe_int (fun _ _ => rfl))))), ?_⟩
  refine ⟨_, rfl, _, rfl, _, _, rfl, b, p, rs, x, y, rfl, rfl, hp, hb, ho, fun H1 s1 => ?_⟩
  refine ⟨_, rfl, ?_⟩
  unfold costO at k
  cases e : canB rs x y with
  | false =>
    rw [e] at k
    exact iteT (k H1 s1)
  | true =>
    rw [e] at k
    refine iteF ⟨_, rfl, _, rfl, _, _, rfl, b, p, rs, x, y, rfl, rfl, s1 _ _ hp, hb.mono s1, ho, e, fun q v2 v3 H2 s2 hq => ?_⟩
    exact ⟨q, _, _, _, rfl, rfl, SqT.of hq, rfl, k H2 (s1.trans s2)⟩

theorem sc_cost : FnScope ["book", "stay", "coins"] ["book", "stay"] (defScope sCost) := ⟨rfl, rfl, rfl, by decide +kernel, rfl, by decide +kernel, by decide +kernel⟩

def sp_cost (K : PySem.W.Frag) : Sp := sp2 fun a s H Q => ∃ b p rs x y c, a = .ref b ∧ s = .ref p ∧ H p = some (.tup [.int x, .int y]) ∧ BkAt K H b rs ∧ StOk x y ∧ costO rs x y = some c ∧ ∀ H', Same H H' → Q (.int c) H'
theorem has_cost (T : Tx K mg) : Has P w K mg base "cost" 5 ["book", "stay"] (sp_cost K) := by
  have g_coins_of := has_coins_of (P := P) (w := w) (base := base) T
  have g_nd := sc_cost.nd
  refine T.d_cost.has sc_cost (fun _ _ _ _ _ _ us hl => match us, hl with | [_, _], _ => rfl) sp2_len (fun cdv A outer s H vs Q E hr h => ?_)
  obtain ⟨a0, a1, rfl, h⟩ := h
  obtain ⟨b, p, rs, x, y, c, rfl, rfl, hp, hb, ho, hc, k⟩ := h
  refine ⟨_, (pss_cons (ps_set (i := 2) g_nd rfl (by first | exact Or.inl rfl | exact Or.inr rfl) (pcall g_coins_of (hr.mono (by decide)) (by rfl) (pa_cons (pv 0) (pa_cons (pv 1) pa_nil))))
        (pss_cons (ps_if (pt_cmpR op_isN (pv 2) pe_non (nomark _)) (pss_one ps_never) pss_nil)
        (pss_one (ps_ret (pv 2))))), ?_⟩
  refine ⟨_, rfl, _, rfl, _, _, rfl, b, p, rs, x, y, rfl, rfl, hp, hb, ho, fun H1 s1 => ?_⟩
  rw [hc]
  refine ⟨_, rfl, rfl, _, rfl, iteFd (by simp [optV]) ?_⟩
  exact ⟨_, rfl, k H1 s1⟩

end
end Stp
namespace Stp
open PySem PySem.Spec PyProof.Rows L2
/-! ### parts, ways, cuts -/
/-- what a part costs -/
def Pc (rss : List (List Rl)) (j : Nat) (b e c : Int) : Prop := ∃ rs, rss[j]? = some rs ∧ costO rs b e = some c
/-- what ways finds: a day, its least coins, the last part's beginning and book -/
abbrev Gm := Int → Option (Int × Option (Int × Nat))
def gPut (g : Gm) (e : Int) (v : Int × Option (Int × Nat)) : Gm := fun d => if d = e then some v else g d
structure WInv (rss : List (List Rl)) (x y day : Int) (g : Gm) : Prop where
  top : g x = some (0, none)
  from_ : ∀ d c po, g d = some (c, po) → x ≤ d ∧ d ≤ y ∧ ((d = x ∧ po = none ∧ c = 0) ∨ ∃ b j cb pob cc, po = some (b, j) ∧ x ≤ b ∧ b < d ∧ b < day ∧ g b = some (cb, pob) ∧ Pc rss j b d cc ∧ c = cb + cc)
  on : ∀ b cb pob, g b = some (cb, pob) → b < day → ∀ j e cc, b < e → e ≤ y → Pc rss j b e cc → ∃ ce poe, g e = some (ce, poe) ∧ ce ≤ cb + cc
/-- within a day: some of its parts are done -/
structure WIn (rss : List (List Rl)) (x y day : Int) (g : Gm) (cd : Int) (pod : Option (Int × Nat)) (dn : List (Int × Int × Nat)) : Prop where
  top : g x = some (0, none)
  lo : x ≤ day
  cur : g day = some (cd, pod)
  from_ : ∀ d c po, g d = some (c, po) → x ≤ d ∧ d ≤ y ∧ ((d = x ∧ po = none ∧ c = 0) ∨ ∃ b j cb pob cc, po = some (b, j) ∧ x ≤ b ∧ b < d ∧ b < day + 1 ∧ g b = some (cb, pob) ∧ Pc rss j b d cc ∧ c = cb + cc)
  on : ∀ b cb pob, g b = some (cb, pob) → b < day → ∀ j e cc, b < e → e ≤ y → Pc rss j b e cc → ∃ ce poe, g e = some (ce, poe) ∧ ce ≤ cb + cc
  now : ∀ c e j, (c, e, j) ∈ dn → ∃ ce poe, g e = some (ce, poe) ∧ ce ≤ cd + c
theorem WInv.enter {rss : List (List Rl)} {x y day : Int} {g : Gm} {cd : Int} {pod : Option (Int × Nat)} (I : WInv rss x y day g) (h : g day = some (cd, pod)) : WIn rss x y day g cd pod [] :=
  ⟨I.top, (I.from_ _ _ _ h).1, h, fun d c po q => by
    obtain ⟨a1, a2, a3⟩ := I.from_ d c po q
    refine ⟨a1, a2, ?_⟩
    rcases a3 with a3 | ⟨b, j, cb, pob, cc, b1, b2, b3, b4, b5, b6, b7⟩
    · exact .inl a3
    · exact .inr ⟨b, j, cb, pob, cc, b1, b2, b3, by omega, b5, b6, b7⟩, I.on, fun _ _ _ h => by cases h⟩
theorem WInv.skip {rss : List (List Rl)} {x y day : Int} {g : Gm} (I : WInv rss x y day g) (h : g day = none) : WInv rss x y (day + 1) g :=
  ⟨I.top, fun d c po q => by
    obtain ⟨a1, a2, a3⟩ := I.from_ d c po q
    refine ⟨a1, a2, ?_⟩
    rcases a3 with a3 | ⟨b, j, cb, pob, cc, b1, b2, b3, b4, b5, b6, b7⟩
    · exact .inl a3
    · exact .inr ⟨b, j, cb, pob, cc, b1, b2, b3, by omega, b5, b6, b7⟩, fun b cb pob q hb => by
    by_cases e : b = day
    · subst e
      rw [h] at q
      cases q
    · exact I.on b cb pob q (by omega)⟩
theorem WIn.leave {rss : List (List Rl)} {x y day : Int} {g : Gm} {cd : Int} {pod : Option (Int × Nat)} {L : List (Int × Int × Nat)} (I : WIn rss x y day g cd pod L)
    (all : ∀ j e cc, day < e → e ≤ y → Pc rss j day e cc → (cc, e, j) ∈ L) : WInv rss x y (day + 1) g :=
  ⟨I.top, I.from_, fun b cb pob q hb j e cc h1 h2 h3 => by
    by_cases ez : b = day
    · subst ez
      rw [I.cur] at q
      cases q
      exact I.now cc e j (all j e cc h1 h2 h3)
    · exact I.on b cb pob q (by omega) j e cc h1 h2 h3⟩
theorem WIn.stay {rss : List (List Rl)} {x y day : Int} {g : Gm} {cd : Int} {pod : Option (Int × Nat)} {dn : List (Int × Int × Nat)} (I : WIn rss x y day g cd pod dn) {c e : Int} {j : Nat} {ce : Int} {poe : Option (Int × Nat)}
    (he : g e = some (ce, poe)) (hle : ce ≤ cd + c) : WIn rss x y day g cd pod (dn ++ [(c, e, j)]) :=
  ⟨I.top, I.lo, I.cur, I.from_, I.on, fun c' e' j' h => by
    rcases List.mem_append.mp h with h | h
    · exact I.now c' e' j' h
    · cases List.mem_singleton.mp h
      exact ⟨ce, poe, he, hle⟩⟩
theorem WIn.put {rss : List (List Rl)} {x y day : Int} {g : Gm} {cd : Int} {pod : Option (Int × Nat)} {dn : List (Int × Int × Nat)} (I : WIn rss x y day g cd pod dn) {c e : Int} {j : Nat} (h1 : day < e) (h2 : e ≤ y) (hp : Pc rss j day e c)
    (hl : ∀ ce poe, g e = some (ce, poe) → cd + c ≤ ce) : WIn rss x y day (gPut g e (cd + c, some (day, j))) cd pod (dn ++ [(c, e, j)]) := by
  have hx := I.lo
  have ne : ∀ d, d ≠ e → gPut g e (cd + c, some (day, j)) d = g d := fun d h => by unfold gPut; rw [if_neg h]
  have eq : gPut g e (cd + c, some (day, j)) e = some (cd + c, some (day, j)) := by unfold gPut; rw [if_pos rfl]
  refine ⟨by rw [ne x (by omega)]; exact I.top, I.lo, by rw [ne day (by omega)]; exact I.cur, fun d c' po q => ?_, fun b cb pob q hb j' e' cc a1 a2 a3 => ?_, fun c' e' j' h => ?_⟩
  · by_cases ed : d = e
    · subst ed
      rw [eq] at q
      cases q
      refine ⟨by omega, h2, .inr ⟨day, j, cd, pod, c, rfl, hx, h1, by omega, ?_, hp, rfl⟩⟩
      rw [ne day (by omega)]
      exact I.cur
    · rw [ne d ed] at q
      obtain ⟨a1, a2, a3⟩ := I.from_ d c' po q
      refine ⟨a1, a2, ?_⟩
      rcases a3 with a3 | ⟨b, j', cb, pob, cc, b1, b2, b3, b4, b5, b6, b7⟩
      · exact .inl a3
      · exact .inr ⟨b, j', cb, pob, cc, b1, b2, b3, b4, by rw [ne b (by omega)]; exact b5, b6, b7⟩
  · rw [ne b (by omega)] at q
    obtain ⟨ce, poe, k1, k2⟩ := I.on b cb pob q hb j' e' cc a1 a2 a3
    by_cases ee : e' = e
    · subst ee
      have := hl ce poe k1
      exact ⟨_, _, eq, by omega⟩
    · exact ⟨ce, poe, by rw [ne e' ee]; exact k1, k2⟩
  · rcases List.mem_append.mp h with h | h
    · obtain ⟨ce, poe, k1, k2⟩ := I.now c' e' j' h
      by_cases ee : e' = e
      · subst ee
        have := hl ce poe k1
        exact ⟨_, _, eq, by omega⟩
      · exact ⟨ce, poe, by rw [ne e' ee]; exact k1, k2⟩
    · cases List.mem_singleton.mp h
      exact ⟨_, _, eq, Int.le_refl _⟩
/-- a cut and what it costs -/
inductive Chain (rss : List (List Rl)) : Int → Int → List (Int × Int × Nat) → Int → Prop where
  | nil (b : Int) : Chain rss b b [] 0
  | cons {b m e : Int} {j : Nat} {c t : Int} {l : List (Int × Int × Nat)} : b < m → Pc rss j b m c → Chain rss m e l t → Chain rss b e ((b, m, j) :: l) (c + t)
theorem Chain.le {rss : List (List Rl)} : ∀ {b e : Int} {l : List (Int × Int × Nat)} {t : Int}, Chain rss b e l t → b ≤ e
  | _, _, _, _, .nil b => Int.le_refl b
  | _, _, _, _, .cons h _ r => by have := r.le; omega
/-- the heights -/
def hgt (g : Gm) (most d : Int) : Int := match g d with
  | some (c, _) => c
  | none => most
def paperOf (g : Gm) (most x y : Int) : List Int := (List.range (y - x).toNat).map fun i => hgt g most (x + (i : Nat) + 1) - hgt g most (x + (i : Nat))
theorem tele (f : Nat → Int) : ∀ (a n : Nat), ((List.range n).map fun i => f (a + i + 1) - f (a + i)).sum = f (a + n) - f a
  | a, 0 => by simp
  | a, n + 1 => by
    rw [List.range_succ, List.map_append, List.sum_append, tele f a n]
    simp
    have : a + n + 1 = a + (n + 1) := by omega
    rw [this]
    omega
/-- what best tells -/
inductive Res where
  | had (coins : Int) (cut : List (Int × Int × Nat)) (paper : List Int)
  | off (days : List Int)
/-- the sum of a paper's numbers of the nights from b to e -/
def psum (x : Int) (paper : List Int) (b e : Int) : Int := ((paper.drop (b - x).toNat).take ((e - b).toNat)).sum
def ResOk (rss : List (List Rl)) (x y : Int) : Res → Prop
  | .had coins cut paper => Chain rss x y cut coins ∧ paper.length = (y - x).toNat ∧ paper.sum = coins ∧ ∀ j b e c, x ≤ b → b < e → e ≤ y → Pc rss j b e c → psum x paper b e ≤ c
  | .off days => x ∈ days ∧ (∀ d ∈ days, x ≤ d ∧ d < y) ∧ days.Pairwise (· < ·) ∧ ∀ j b e c, x ≤ b → b < e → e ≤ y → Pc rss j b e c → b ∈ days → e ∈ days
theorem paper_psum (g : Gm) (most x y b e : Int) (h1 : x ≤ b) (h2 : b ≤ e) (h3 : e ≤ y) : psum x (paperOf g most x y) b e = hgt g most e - hgt g most b := by
  unfold psum paperOf
  have e1 : (((List.range (y - x).toNat).map fun i => hgt g most (x + (i : Nat) + 1) - hgt g most (x + (i : Nat))).drop (b - x).toNat).take (e - b).toNat = (List.range (e - b).toNat).map fun i => hgt g most (x + (((b - x).toNat + i + 1 : Nat) : Int)) - hgt g most (x + (((b - x).toNat + i : Nat) : Int)) := by
    refine List.ext_getElem ?_ fun i k1 k2 => ?_
    · rw [List.length_take, List.length_drop, List.length_map, List.length_range, List.length_map, List.length_range]
      omega
    · rw [List.getElem_take, List.getElem_drop, List.getElem_map, List.getElem_map, List.getElem_range, List.getElem_range]
      have a1 : x + (((b - x).toNat + i : Nat) : Int) + 1 = x + (((b - x).toNat + i + 1 : Nat) : Int) := by omega
      rw [a1]
  rw [e1, tele (fun n => hgt g most (x + (n : Int))) (b - x).toNat (e - b).toNat]
  have a1 : x + (((b - x).toNat + (e - b).toNat : Nat) : Int) = e := by omega
  have a2 : x + (((b - x).toNat : Nat) : Int) = b := by omega
  show hgt g most (x + (((b - x).toNat + (e - b).toNat : Nat) : Int)) - hgt g most (x + (((b - x).toNat : Nat) : Int)) = _
  rw [a1, a2]
/-! ### no cost is below 0 -/
theorem sum_nn : ∀ {l : List Int}, (∀ z ∈ l, 0 ≤ z) → 0 ≤ l.sum
  | [], _ => by simp
  | a :: r, h => by
    rw [List.sum_cons]
    have := sum_nn (l := r) fun z hz => h z (List.mem_cons_of_mem _ hz)
    have := h a List.mem_cons_self
    omega
theorem take_sum_le {l : List Int} (n : Nat) (h : ∀ z ∈ l, 0 ≤ z) : (l.take n).sum ≤ l.sum := by
  have e : l.sum = (l.take n).sum + (l.drop n).sum := by rw [← List.sum_append, List.take_append_drop]
  have := sum_nn (l := l.drop n) fun z hz => h z (List.mem_of_mem_drop hz)
  omega
theorem perm_sum {l m : List Int} (h : l.Perm m) : l.sum = m.sum := by
  induction h with
  | nil => rfl
  | cons x _ ih => rw [List.sum_cons, List.sum_cons, ih]
  | swap x y l => simp only [List.sum_cons]; omega
  | trans _ _ i1 i2 => exact i1.trans i2
theorem freeSum_le {l : List Int} (f : Nat) (h : ∀ z ∈ l, 0 ≤ z) : freeSum l f ≤ l.sum := by
  have h1 : (l.mergeSort (fun a b => decide (a ≤ b))).Perm l := List.mergeSort_perm _ _
  unfold freeSum
  rw [← perm_sum h1]
  exact take_sum_le f fun z hz => h z (h1.mem_iff.mp hz)
theorem freeTot_le {ps : List Int} (m f : Nat) (h : ∀ z ∈ ps, 0 ≤ z) : ∀ k, freeTot ps m f k ≤ (ps.take (k * m)).sum
  | 0 => by simp [freeTot]
  | k + 1 => by
    have ih := freeTot_le m f h k
    have h1 : freeSum (bund ps m k) f ≤ (bund ps m k).sum := freeSum_le f fun z hz => h z (List.mem_of_mem_drop (List.mem_of_mem_take hz))
    have e : (ps.take ((k + 1) * m)).sum = (ps.take (k * m)).sum + (bund ps m k).sum := by
      rw [Nat.succ_mul, List.take_add, List.sum_append]
      rfl
    show freeTot ps m f k + freeSum (bund ps m k) f ≤ _
    omega
theorem unm_nn {ps : List Int} (d : Option (Int × Int)) (h : ∀ z ∈ ps, 0 ≤ z) : 0 ≤ unm ps d := by
  cases d with
  | none => exact sum_nn h
  | some p =>
    obtain ⟨m, f⟩ := p
    have h1 := freeTot_le m.toNat f.toNat h (ps.length / m.toNat)
    have h2 := take_sum_le (ps.length / m.toNat * m.toNat) h
    show 0 ≤ ps.sum - freeTot ps m.toNat f.toNat (ps.length / m.toNat)
    omega
theorem priceO_nn {rs : List Rl} (hr : ∀ r ∈ rs, r.Ok) {d i : Int} (h : priceO rs d = some i) : 0 ≤ i := by
  have ok := tel_ok hr .price d
  unfold priceO at h
  generalize tel rs .price d = z at h ok
  cases z with
  | int i' => cases h; exact ok.1
  | non => cases h
  | bl b => cases h
  | two a b => cases h
theorem costO_nn {rs : List Rl} (hr : ∀ r ∈ rs, r.Ok) {b e c : Int} (h : costO rs b e = some c) : 0 ≤ c := by
  unfold costO at h
  split at h
  · cases h
    have h1 : 0 ≤ feeI rs b := by
      have ok := tel_ok hr .fee b
      unfold feeI
      generalize tel rs .fee b = z at ok
      cases z with
      | int i' => exact ok.1
      | non => exact ok.elim
      | bl b => exact ok.elim
      | two a b => exact ok.elim
    have h2 : 0 ≤ unm (prices rs b e) (dealO rs b) := unm_nn _ fun z hz => by
      obtain ⟨n, _, rfl⟩ := List.mem_map.mp hz
      cases q : priceO rs n with
      | none => exact Int.le_refl _
      | some i => exact priceO_nn hr q
    unfold billI
    omega
  · cases h
/-- behind the last day: what best tells -/
theorem WInv.off {rss : List (List Rl)} {x y : Int} {g : Gm} (I : WInv rss x y y g) (hy : g y = none) {ds : List Int} (h1 : ds.Pairwise (· < ·)) (h2 : ∀ d, d ∈ ds ↔ (g d).isSome = true) : ResOk rss x y (.off ds) := by
  refine ⟨(h2 x).mpr (by rw [I.top]; rfl), fun d hd => ?_, h1, fun j b e c a1 a2 a3 a4 a5 => ?_⟩
  · obtain ⟨v, hv⟩ := Option.isSome_iff_exists.mp ((h2 d).mp hd)
    obtain ⟨a1, a2, _⟩ := I.from_ d v.1 v.2 hv
    refine ⟨a1, ?_⟩
    by_cases e : d = y
    · subst e
      rw [hy] at hv
      cases hv
    · omega
  · obtain ⟨v, hv⟩ := Option.isSome_iff_exists.mp ((h2 b).mp a5)
    obtain ⟨ce, poe, k1, _⟩ := I.on b v.1 v.2 hv (by omega) j e c a2 a3 a4
    exact (h2 e).mpr (by rw [k1]; rfl)
theorem WInv.had {rss : List (List Rl)} {x y : Int} {g : Gm} (I : WInv rss x y y g) (hxy : x < y) (hok : ∀ rs ∈ rss, ∀ r ∈ rs, r.Ok) {c : Int} {po : Option (Int × Nat)} (hy : g y = some (c, po)) {most : Int} (hm : ∀ d c po, g d = some (c, po) → c ≤ most) {cut : List (Int × Int × Nat)} (hc : Chain rss x y cut c) :
    ResOk rss x y (.had c cut (paperOf g most x y)) := by
  refine ⟨hc, by unfold paperOf; rw [List.length_map, List.length_range], ?_, fun j b e c' a1 a2 a3 a4 => ?_⟩
  · have e1 : psum x (paperOf g most x y) x y = (paperOf g most x y).sum := by
      unfold psum
      have : (paperOf g most x y).length = (y - x).toNat := by unfold paperOf; rw [List.length_map, List.length_range]
      rw [show (x - x).toNat = 0 by omega, List.drop_zero, ← this, List.take_length]
    rw [← e1, paper_psum g most x y x y (Int.le_refl _) (by omega) (Int.le_refl _)]
    unfold hgt
    rw [hy, I.top]
    show c - 0 = c
    omega
  · rw [paper_psum g most x y b e a1 (by omega) a3]
    have c0 : 0 ≤ c' := by
      obtain ⟨rs, k1, k2⟩ := a4
      exact costO_nn (hok rs (List.mem_of_getElem? k1)) k2
    cases hb : g b with
    | none =>
      have e2 : hgt g most b = most := by unfold hgt; rw [hb]
      have e3 : hgt g most e ≤ most := by
        unfold hgt
        cases he : g e with
        | none => exact Int.le_refl _
        | some v => exact hm e v.1 v.2 he
      omega
    | some v =>
      obtain ⟨ce, poe, k1, k2⟩ := I.on b v.1 v.2 hb (by omega) j e c' a2 a3 a4
      have e2 : hgt g most b = v.1 := by unfold hgt; rw [hb]
      have e3 : hgt g most e = ce := by unfold hgt; rw [k1]
      omega
end Stp
namespace Stp
open PySem PySem.Spec PyProof.Rows L2
section
variable {P : Program} {w : World} {K : PySem.W.Frag} {mg : Str → Option Value} {base : Heap}

/-- a list of books -/
def BksAt (K : PySem.W.Frag) (H : Hp) (a : Addr) (rss : List (List Rl)) : Prop := ∃ bs : List Addr, H a = some (.lst (bs.map V.ref)) ∧ All2 (BkAt K H) bs rss
theorem BksAt.mono {K : PySem.W.Frag} {H H' : Hp} (s : Same H H') {a : Addr} {rss : List (List Rl)} : BksAt K H a rss → BksAt K H' a rss := fun ⟨bs, h1, h2⟩ => ⟨bs, s _ _ h1, h2.mono fun _ _ => BkAt.mono s⟩
/-- a part with what it costs -/
def PtAt (H : Hp) (d : Int) (v : V) (z : Int × Int × Nat) : Prop := ∃ t q, v = .ref t ∧ H t = some (.tup [.int z.1, .ref q]) ∧ H q = some (.tup [.int d, .int z.2.1, .int (z.2.2 : Int)])
theorem PtAt.kt {H H' : Hp} (s : KT H H') {d : Int} {v : V} {z : Int × Int × Nat} : PtAt H d v z → PtAt H' d v z := fun ⟨t, q, e, h1, h2⟩ => ⟨t, q, e, s _ _ h1, s _ _ h2⟩
structure PfIn (rss : List (List Rl)) (d y : Int) (L : List (Int × Int × Nat)) (i k : Nat) : Prop where
  sound : ∀ c e j, (c, e, j) ∈ L → d < e ∧ e ≤ y ∧ Pc rss j d e c
  full : ∀ j e c, j < i → d < e → e ≤ y → Pc rss j d e c → (c, e, j) ∈ L
  now : ∀ e c, d < e → e ≤ d + (k : Int) → e ≤ y → Pc rss i d e c → (c, e, i) ∈ L

theorem sc_parts_from : FnScope ["books", "stay", "day", "found", "number", "book", "to", "coins"] ["books", "stay", "day"] (defScope sPartsFrom) := ⟨rfl, rfl, rfl, by decide +kernel, rfl, by decide +kernel, by decide +kernel⟩

def sp_parts_from (K : PySem.W.Frag) : Sp := sp3 fun a s dv H Q => ∃ l p x y d rss, a = .ref l ∧ s = .ref p ∧ dv = .int d ∧ BksAt K H l rss ∧ rss.length ≤ 4 ∧ H p = some (.tup [.int x, .int y]) ∧ StOk x y ∧ x ≤ d ∧ d < y ∧ ∀ q vs L H', Same H H' → H q = none → H' q = some (.lst vs) → All2 (PtAt H' d) vs L → (∀ c e j, (c, e, j) ∈ L → d < e ∧ e ≤ y ∧ Pc rss j d e c) → (∀ j e c, d < e → e ≤ y → Pc rss j d e c → (c, e, j) ∈ L) → Q (.ref q) H'
theorem has_parts_from (T : Tx K mg) : Has P w K mg base "parts_from" 5 ["books", "stay", "day"] (sp_parts_from K) := by
  have g_coins_of := has_coins_of (P := P) (w := w) (base := base) T
  have g_nd := sc_parts_from.nd
  refine T.d_parts_from.has sc_parts_from (fun _ _ _ _ _ _ us hl => match us, hl with | [_, _, _], _ => rfl) sp3_len (fun cdv A outer s H vs Q E hr h => ?_)
  obtain ⟨a0, a1, a2, rfl, h⟩ := h
  obtain ⟨l, p, x, y, d, rss, rfl, rfl, rfl, ⟨bs, hl, hbk⟩, h4, hp, ho, hxd, hdy, k⟩ := h
  refine ⟨_, (pss_cons (ps_set (i := 3) g_nd rfl (by first | exact Or.inl rfl | exact Or.inr rfl) (pe_lst pa_nil))
        (pss_cons (ps_for PassesOwn.never rfl (pi_enum (by rfl) T.b_enumerate (pa_cons (pv 0) pa_nil)) (pg_tup rfl (pgs_cons (pg_name (i := 4) g_nd rfl (by first | exact Or.inl rfl | exact Or.inr rfl)) (pgs_cons (pg_name (i := 5) g_nd rfl (by first | exact Or.inl rfl | exact Or.inr rfl)) pgs_nil))) (pss_one (ps_for PassesOwn.never rfl (pi_range2 (by rfl) T.b_range (pa_cons (pe_op op_add (pv 2) pe_int) (pa_cons (pe_op op_add (pe_ix (r := rIxT K) ix_tup (pv 1) pe_int (fun _ _ => rfl)) pe_int) pa_nil))) (pg_name (i := 6) g_nd rfl (by first | exact Or.inl rfl | exact Or.inr rfl)) (pss_cons (ps_set (i := 7) g_nd rfl (by first | exact Or.inl rfl | exact Or.inr rfl) (pcall g_coins_of (hr.mono (by decide)) (by rfl) (pa_cons (pv 5) (pa_cons (pe_tup (pa_cons (pv 2) (pa_cons (pv 6) pa_nil))) pa_nil))))
        (pss_one (ps_if (pt_cmpR op_notN (pv 7) pe_non (nomark _)) (pss_one (ps_expr (pe_bm PySem.F.plainAttrs_list PySem.F.slot_list_append PySem.F.type_list_append mt_append (pv 3) (pa_cons (pe_tup (pa_cons (pv 7) (pa_cons (pe_tup (pa_cons (pv 2) (pa_cons (pv 6) (pa_cons (pv 4) pa_nil)))) pa_nil))) pa_nil)))) pss_nil))))))
        (pss_one (ps_ret (pv 3))))), ?_⟩
  refine ⟨Nat.zero_le _, fun F hF => ?_⟩
  have hlo := ho.lo
  have hle := ho.le
  have hhi := ho.hi
  have s0 : Same H (upd H F (.lst [])) := snewR hF
  refine ⟨_, rfl, l, _, rfl, SqL.of (s0 _ _ hl), for_enum (K := K) (a := l) (xs := bs.map V.ref) (fun i σ Hc => (∃ v4 v5 v6 v7, σ = [some (.ref l), some (.ref p), some (.int d), some (.ref F), v4, v5, v6, v7]) ∧ Same H Hc ∧ ∃ vs L, Hc F = some (.lst vs) ∧ All2 (PtAt Hc d) vs L ∧ vs.length ≤ 14 * i ∧ PfIn rss d y L i 0)
    ⟨⟨none, none, none, none, rfl⟩, s0, [], [], upd_same, .nil, Nat.le_refl _, ⟨fun _ _ _ h => (by cases h), fun j _ _ h => absurd h (Nat.not_lt_zero _), fun e c h1 h2 => by omega⟩⟩ (fun i σ Hc _ ⟨_, s, _⟩ => SqL.of (s _ _ hl)) ?_ ?_⟩
  · rintro i z Tp σ Hc hz ⟨⟨v4, v5, v6, v7, rfl⟩, s1, vs, L, hFc, hpt, hlen, PI⟩ hT
    obtain ⟨b, hbi, rfl⟩ : ∃ b, bs[i]? = some b ∧ z = V.ref b := by
      rw [List.getElem?_map] at hz
      cases e : bs[i]? with
      | none => rw [e] at hz; cases hz
      | some y => rw [e] at hz; exact ⟨y, rfl, (Option.some.inj hz).symm⟩
    obtain ⟨rs, hrs, hb⟩ := hbk.get hbi
    have hi4 : i < 4 := Nat.lt_of_lt_of_le (List.getElem?_eq_some_iff.mp hrs).1 h4
    have sT : Same Hc (upd Hc Tp (.tup [.int (i : Nat), .ref b])) := snewR hT
    refine ⟨Tp, _, rfl, SqT.of upd_same, rfl, _, _, rfl, _, _, rfl, rfl, ?_⟩
    refine ⟨_, rfl, _, _, rfl, rfl, _, rfl, p, _, _, _, rfl, rfl, SqT.of (sT _ _ (s1 _ _ hp)), rfl, _, _, rfl, rfl, d + 1, y + 1, rfl, ⟨by omega, by omega, by omega, by omega⟩, ?_⟩
    have en : (y + 1 - (d + 1)).toNat = (y - d).toNat := by omega
    rw [en]
    refine for_range (lo := d + 1) (n := (y - d).toNat) (fun k σ Hx => (∃ v6 v7, σ = [some (.ref l), some (.ref p), some (.int d), some (.ref F), some (.int (i : Nat)), some (.ref b), v6, v7]) ∧ Same H Hx ∧ ∃ vs L, Hx F = some (.lst vs) ∧ All2 (PtAt Hx d) vs L ∧ vs.length ≤ 14 * i + k ∧ PfIn rss d y L i k)
      ⟨⟨_, _, rfl⟩, s1.trans sT, vs, L, sT _ _ hFc, hpt.mono fun _ _ => PtAt.kt (KT.of sT), hlen, PI⟩ ?_ ?_
    · rintro k σ Hx hk ⟨⟨v6, v7, rfl⟩, s2, vs, L, hFx, hpt2, hlen2, PI2⟩
      refine ⟨_, rfl, _, rfl, _, rfl, by show 2 ≤ sizeLine; decide, fun q1 hq1 => ?_⟩
      have s3 : Same H (upd Hx q1 (.tup [.int d, .int (d + 1 + (k : Nat))])) := s2.trans (snewR hq1)
      refine ⟨_, _, rfl, b, q1, rs, d, d + 1 + (k : Nat), rfl, rfl, upd_same, hb.mono s3, ⟨by omega, by omega, by omega, by omega⟩, fun H4 s4 => ?_⟩
      have s5 : Same H H4 := s3.trans s4
      have s25 : Same Hx H4 := (snewR hq1).trans s4
      have hF4 := s25 _ _ hFx
      cases hc : costO rs d (d + 1 + (k : Nat)) with
      | none =>
        refine ⟨_, rfl, rfl, _, rfl, iteFn rfl ?_⟩
        refine ⟨⟨_, _, rfl⟩, s5, vs, L, hF4, hpt2.mono fun _ _ => PtAt.kt (KT.of s25), by omega, PI2.sound, PI2.full, fun e c g1 g2 g3 g4 => ?_⟩
        by_cases ez : e = d + 1 + (k : Nat)
        · subst ez
          obtain ⟨rs', r1, r2⟩ := g4
          rw [hrs] at r1
          cases r1
          rw [hc] at r2
          cases r2
        · exact PI2.now e c g1 (by omega) g3 g4
      | some c =>
        refine ⟨_, rfl, rfl, _, rfl, iteTn (by simp [optV]) ?_⟩
        refine ⟨_, rfl, .inl ⟨rfl, _, SqL.of hF4⟩, _, rfl, _, rfl, _, rfl, _, rfl, by show 3 ≤ sizeLine; decide, fun q2 hq2 => ⟨by show 2 ≤ sizeLine; decide, fun q3 hq3 => ?_⟩⟩
        have n2F : F ≠ q2 := ne_of_none hF4 hq2
        have n3F : F ≠ q3 := ne_of_none (by rw [upd_ne n2F]; exact hF4) hq3
        have s6 : Same H4 (upd (upd H4 q2 (.tup [.int d, .int (d + 1 + (k : Nat)), .int (i : Nat)])) q3 (.tup [.int c, .ref q2])) := (snewR hq2).trans (snewR hq3)
        have n23 : q2 ≠ q3 := ne_of_none upd_same hq3
        have hF6 := s6 _ _ hF4
        refine ⟨F, vs, _, rfl, rfl, hF6, small15 (by omega), ?_⟩
        have kt : KT Hx (upd (upd (upd H4 q2 (.tup [.int d, .int (d + 1 + (k : Nat)), .int (i : Nat)])) q3 (.tup [.int c, .ref q2])) F (.lst (vs ++ [.ref q3]))) := ((KT.of s25).trans (KT.of s6)).trans (KT.lst hF6)
        refine ⟨⟨_, _, rfl⟩, snew (s5.trans s6) hF, vs ++ [.ref q3], L ++ [(c, d + 1 + (k : Nat), i)], upd_same, (hpt2.mono fun _ _ => PtAt.kt kt).snoc ⟨q3, q2, rfl, by rw [upd_ne n3F.symm, upd_same], by rw [upd_ne n2F.symm, upd_ne n23, upd_same]⟩, by rw [List.length_append]; exact Nat.succ_le_succ hlen2, ?_, ?_, ?_⟩
        · intro c' e' j' hm
          rcases List.mem_append.mp hm with hm | hm
          · exact PI2.sound c' e' j' hm
          · cases List.mem_singleton.mp hm
            exact ⟨by omega, by omega, rs, hrs, hc⟩
        · intro j' e' c' g1 g2 g3 g4
          exact List.mem_append_left _ (PI2.full j' e' c' g1 g2 g3 g4)
        · intro e' c' g1 g2 g3 g4
          by_cases ez : e' = d + 1 + (k : Nat)
          · subst ez
            obtain ⟨rs', r1, r2⟩ := g4
            rw [hrs] at r1
            cases r1
            rw [hc] at r2
            cases r2
            exact List.mem_append_right _ List.mem_cons_self
          · exact List.mem_append_left _ (PI2.now e' c' g1 (by omega) g3 g4)
    · rintro σ Hx ⟨⟨v6, v7, rfl⟩, s2, vs, L, hFx, hpt2, hlen2, PI2⟩
      refine ⟨⟨_, _, _, _, rfl⟩, s2, vs, L, hFx, hpt2, by omega, PI2.sound, fun j e c hj g1 g2 g3 => ?_, fun e c g1 g2 => by omega⟩
      rcases Nat.lt_succ_iff_lt_or_eq.mp hj with q | q
      · exact PI2.full j e c q g1 g2 g3
      · subst q
        exact PI2.now e c g1 (by omega) g2 g3
  · rintro σ Hc ⟨⟨v4, v5, v6, v7, rfl⟩, s1, vs, L, hFc, hpt, hlen, PI⟩
    refine ⟨_, rfl, k F vs L Hc s1 hF hFc hpt PI.sound fun j e c g1 g2 g3 => PI.full j e c ?_ g1 g2 g3⟩
    obtain ⟨rs, r1, _⟩ := g3
    have := (List.getElem?_eq_some_iff.mp r1).1
    rw [List.length_map, hbk.length]
    exact this

end
end Stp
namespace Stp
open PySem PySem.Spec PyProof.Rows L2
section
variable {P : Program} {w : World} {K : PySem.W.Frag} {mg : Str → Option Value} {base : Heap}

/-- the last part of a way, at its value -/
def PvAt (H : Hp) (d : Int) (pv : V) : Option (Int × Nat) → Prop
  | none => pv = .non
  | some (b, j) => ∃ q, pv = .ref q ∧ H q = some (.tup [.int b, .int d, .int (j : Int)])
theorem PvAt.kt {H H' : Hp} (s : KT H H') {d : Int} {pv : V} : ∀ {po : Option (Int × Nat)}, PvAt H d pv po → PvAt H' d pv po
  | none, h => h
  | some (_, _), ⟨q, e, h⟩ => ⟨q, e, s _ _ h⟩
structure WAt (H : Hp) (f : Addr) (kvs : List (Key × V)) (ks : List Int) (g : Gm) : Prop where
  d : H f = some (.dK kvs)
  keys : kvs.map (·.1) = ks.map Sum.inl
  nd : ks.Nodup
  dom : ∀ d, d ∈ ks ↔ (g d).isSome = true
  val : ∀ d c po, g d = some (c, po) → ∃ t pv, valV kvs (Sum.inl d : Key) = some (.ref t) ∧ H t = some (.tup [.int c, pv]) ∧ PvAt H d pv po
theorem WAt.none_ {H : Hp} {f : Addr} {kvs : List (Key × V)} {ks : List Int} {g : Gm} (W : WAt H f kvs ks g) {d : Int} (h : g d = none) : valV kvs (Sum.inl d : Key) = none := by
  cases e : valV kvs (Sum.inl d : Key) with
  | none => rfl
  | some v =>
    have m := valV_in e
    rw [W.keys] at m
    obtain ⟨d', h1, h2⟩ := List.mem_map.mp m
    cases h2
    have := (W.dom d).mp h1
    rw [h] at this
    cases this
theorem WAt.kt {H H' : Hp} {f : Addr} {kvs : List (Key × V)} {ks : List Int} {g : Gm} (W : WAt H f kvs ks g) (s : KT H H') (e : H' f = some (.dK kvs)) : WAt H' f kvs ks g :=
  ⟨e, W.keys, W.nd, W.dom, fun d c po h => by
    obtain ⟨t, pv, h1, h2, h3⟩ := W.val d c po h
    exact ⟨t, pv, h1, s _ _ h2, h3.kt s⟩⟩
theorem WAt.mono {H H' : Hp} {f : Addr} {kvs : List (Key × V)} {ks : List Int} {g : Gm} (W : WAt H f kvs ks g) (s : Same H H') : WAt H' f kvs ks g := W.kt (KT.of s) (s _ _ W.d)
theorem put_keys_in {kvs : List (Key × V)} {k : Key} (v : V) (h : k ∈ kvs.map (·.1)) : (putK kvs k v).map (·.1) = kvs.map (·.1) := by
  unfold putK
  rw [if_pos]
  · rw [List.map_map]
    refine List.map_congr_left fun kv _ => ?_
    show (if kv.1 = k then (kv.1, v) else kv).1 = kv.1
    split <;> rfl
  · obtain ⟨p, hp, e⟩ := List.mem_map.mp h
    exact List.any_eq_true.mpr ⟨p, hp, decide_eq_true e⟩
theorem put_keys_new {kvs : List (Key × V)} {k : Key} (v : V) (h : ¬ k ∈ kvs.map (·.1)) : (putK kvs k v).map (·.1) = kvs.map (·.1) ++ [k] := by
  unfold putK
  rw [if_neg]
  · rw [List.map_append]
    rfl
  · intro z
    obtain ⟨p, hp, e⟩ := List.any_eq_true.mp z
    exact h (List.mem_map.mpr ⟨p, hp, of_decide_eq_true e⟩)
theorem WAt.put {H : Hp} {f : Addr} {kvs : List (Key × V)} {ks : List Int} {g : Gm} (W : WAt H f kvs ks g) {e c : Int} {po : Option (Int × Nat)} {t : Addr} {pv : V} (ht : H t = some (.tup [.int c, pv])) (hp : PvAt H e pv po) :
    ∃ ks', WAt (upd H f (.dK (putK kvs (Sum.inl e : Key) (.ref t)))) f (putK kvs (Sum.inl e : Key) (.ref t)) ks' (gPut g e (c, po)) := by
  have kt : KT H (upd H f (.dK (putK kvs (Sum.inl e : Key) (.ref t)))) := KT.dct W.d
  have hm : (Sum.inl e : Key) ∈ kvs.map (·.1) ↔ e ∈ ks := by
    rw [W.keys]
    constructor
    · intro h
      obtain ⟨d', h1, h2⟩ := List.mem_map.mp h
      cases h2
      exact h1
    · exact fun h => List.mem_map.mpr ⟨e, h, rfl⟩
  have val : ∀ d c' po', gPut g e (c, po) d = some (c', po') → ∃ t' pv', valV (putK kvs (Sum.inl e : Key) (.ref t)) (Sum.inl d : Key) = some (.ref t') ∧ (upd H f (.dK (putK kvs (Sum.inl e : Key) (.ref t)))) t' = some (.tup [.int c', pv']) ∧ PvAt (upd H f (.dK (putK kvs (Sum.inl e : Key) (.ref t)))) d pv' po' := by
    intro d c' po' h
    rw [valV_put]
    by_cases z : d = e
    · subst z
      unfold gPut at h
      rw [if_pos rfl] at h
      cases h
      exact ⟨t, pv, by rw [if_pos rfl], kt _ _ ht, hp.kt kt⟩
    · unfold gPut at h
      rw [if_neg z] at h
      obtain ⟨t', pv', h1, h2, h3⟩ := W.val d c' po' h
      exact ⟨t', pv', by rw [if_neg fun q => z (Sum.inl.inj q)]; exact h1, kt _ _ h2, h3.kt kt⟩
  by_cases h : e ∈ ks
  · refine ⟨ks, upd_same, ?_, W.nd, fun d => ?_, val⟩
    · rw [put_keys_in _ (hm.mpr h)]
      exact W.keys
    · unfold gPut
      by_cases z : d = e
      · subst z
        rw [if_pos rfl]
        exact ⟨fun _ => rfl, fun _ => h⟩
      · rw [if_neg z]
        exact W.dom d
  · refine ⟨ks ++ [e], upd_same, ?_, nd_snoc W.nd h, fun d => ?_, val⟩
    · rw [put_keys_new _ (fun q => h (hm.mp q)), W.keys, List.map_append]
      rfl
    · unfold gPut
      rw [List.mem_append, List.mem_singleton]
      by_cases z : d = e
      · subst z
        rw [if_pos rfl]
        exact ⟨fun _ => rfl, fun _ => .inr rfl⟩
      · rw [if_neg z]
        exact ⟨fun q => q.elim (W.dom d).mp fun q => absurd q z, fun q => .inl ((W.dom d).mpr q)⟩
theorem nd_bound (x : Int) : ∀ (n : Nat) (ks : List Int), ks.Nodup → (∀ k ∈ ks, x ≤ k ∧ k < x + (n : Int)) → ks.length ≤ n
  | 0, [], _, _ => Nat.le_refl _
  | 0, k :: _, _, h => by
    have := h k List.mem_cons_self
    omega
  | n + 1, ks, nd, h => by
    by_cases m : x + (n : Int) ∈ ks
    · have h1 := nd_bound x n (ks.erase (x + (n : Int))) (nd.erase _) fun k hk => by
        have h2 := (List.Nodup.mem_erase_iff nd).mp hk
        have h3 := h k h2.2
        have h4 := h2.1
        omega
      rw [List.length_erase_of_mem m] at h1
      omega
    · have h1 := nd_bound x n ks nd fun k hk => by
        have h3 := h k hk
        have h4 : k ≠ x + (n : Int) := fun z => m (z ▸ hk)
        omega
      omega
theorem WAt.len {H : Hp} {f : Addr} {kvs : List (Key × V)} {ks : List Int} {g : Gm} (W : WAt H f kvs ks g) {x y : Int} (ho : StOk x y) (hg : ∀ d c po, g d = some (c, po) → x ≤ d ∧ d ≤ y) : ks.length ≤ 15 := by
  refine nd_bound x 15 ks W.nd fun k hk => ?_
  obtain ⟨v, hv⟩ := Option.isSome_iff_exists.mp ((W.dom k).mp hk)
  have := hg k v.1 v.2 hv
  have := ho.le
  omega
theorem WAt.klen {H : Hp} {f : Addr} {kvs : List (Key × V)} {ks : List Int} {g : Gm} (W : WAt H f kvs ks g) : kvs.length = ks.length := by
  have := congrArg List.length W.keys
  rw [List.length_map, List.length_map] at this
  exact this

theorem sc_ways : FnScope ["books", "stay", "found", "day", "coins", "part", "told"] ["books", "stay"] (defScope sWays) := ⟨rfl, rfl, rfl, by decide +kernel, rfl, by decide +kernel, by decide +kernel⟩

def sp_ways (K : PySem.W.Frag) : Sp := sp2 fun a s H Q => ∃ l p x y rss, a = .ref l ∧ s = .ref p ∧ BksAt K H l rss ∧ rss.length ≤ 4 ∧ H p = some (.tup [.int x, .int y]) ∧ StOk x y ∧ ∀ f kvs ks g H', Same H H' → H f = none → WAt H' f kvs ks g → WInv rss x y y g → Q (.ref f) H'
theorem has_ways (T : Tx K mg) : Has P w K mg base "ways" 6 ["books", "stay"] (sp_ways K) := by
  have g_parts_from := has_parts_from (P := P) (w := w) (base := base) T
  have g_nd := sc_ways.nd
  refine T.d_ways.has sc_ways (fun _ _ _ _ _ _ us hl => match us, hl with | [_, _], _ => rfl) sp2_len (fun cdv A outer s H vs Q E hr h => ?_)
  obtain ⟨a0, a1, rfl, h⟩ := h
  obtain ⟨l, p, x, y, rss, rfl, rfl, hbk, h4, hp, ho, k⟩ := h
  refine ⟨_, (pss_cons (ps_set (i := 2) g_nd rfl (by first | exact Or.inl rfl | exact Or.inr rfl) (pe_disp (pps_cons (pe_ix (r := rIxT K) ix_tup (pv 1) pe_int (fun _ _ => rfl)) (pe_tup (pa_cons pe_int (pa_cons pe_non pa_nil))) pps_nil) (by rfl) (by rfl) (fun z => by cases z) (by decide)))
        (pss_cons (ps_for PassesOwn.never rfl (pi_range2 (by rfl) T.b_range (pa_cons (pe_ix (r := rIxT K) ix_tup (pv 1) pe_int (fun _ _ => rfl)) (pa_cons (pe_ix (r := rIxT K) ix_tup (pv 1) pe_int (fun _ _ => rfl)) pa_nil))) (pg_name (i := 3) g_nd rfl (by first | exact Or.inl rfl | exact Or.inr rfl)) (pss_one (ps_if (pt_cmp (pc_din (hu_of hr) (pv 3) (pv 2))) (pss_one (ps_for PassesOwn.never rfl (pi_list (pcall g_parts_from (hr.mono (by decide)) (by rfl) (pa_cons (pv 0) (pa_cons (pv 1) (pa_cons (pv 3) pa_nil))))) (pg_tup rfl (pgs_cons (pg_name (i := 4) g_nd rfl (by first | exact Or.inl rfl | exact Or.inr rfl)) (pgs_cons (pg_name (i := 5) g_nd rfl (by first | exact Or.inl rfl | exact Or.inr rfl)) pgs_nil))) (pss_cons (ps_set (i := 6) g_nd rfl (by first | exact Or.inl rfl | exact Or.inr rfl) (pe_op op_add (pe_ix (r := rIxT K) ix_tup (pe_dget (hu_of hr) (pv 2) (pv 3) (fun _ _ => rfl)) pe_int (fun _ _ => rfl)) (pv 4)))
        (pss_one (ps_if (PW.pt (pw_or (pt_cmp (pc_dnotin (hu_of hr) (pe_ix (r := rIxT K) ix_tup (pv 5) pe_int (fun _ _ => rfl)) (pv 2))) (pw_or1 (pt_cmpR op_lt (pv 6) (pe_ix (r := rIxT K) ix_tup (pe_dget (hu_of hr) (pv 2) (pe_ix (r := rIxT K) ix_tup (pv 5) pe_int (fun _ _ => rfl)) (fun _ _ => rfl)) pe_int (fun _ _ => rfl)) (nomark _))))) (pss_one (ps_dput (hu_of hr) (pv 2) (pe_ix (r := rIxT K) ix_tup (pv 5) pe_int (fun _ _ => rfl)) (pe_tup (pa_cons (pv 6) (pa_cons (pv 5) pa_nil))) rfl)) pss_nil))))) pss_nil)))
        (pss_one (ps_ret (pv 2))))), ?_⟩
  have hlo := ho.lo
  have hle := ho.le
  have hlt := ho.lt
  have hhi := ho.hi
  intro f hf
  have s0 : Same H (upd H f (.dK [])) := snewR hf
  refine ⟨_, rfl, p, _, _, _, rfl, rfl, SqT.of (s0 _ _ hp), rfl, by show 2 ≤ sizeLine; decide, fun t0 ht0 => ?_⟩
  have nf : f ≠ t0 := ne_of_none upd_same ht0
  refine ⟨by rw [upd_ne nf, upd_same], [(Sum.inl x, .ref t0)], rfl, by show 1 ≤ 15; decide, ?_⟩
  have s1 : Same H (upd (upd (upd H f (.dK [])) t0 (.tup [.int 0, .non])) f (.dK [((Sum.inl x : Key), V.ref t0)])) := snew (s0.trans (snewR ht0)) hf
  have W0 : WAt (upd (upd (upd H f (.dK [])) t0 (.tup [.int 0, .non])) f (.dK [((Sum.inl x : Key), V.ref t0)])) f [((Sum.inl x : Key), V.ref t0)] [x] (fun d => if d = x then some (0, none) else none) := by
    refine ⟨upd_same, rfl, by simp, fun d => ?_, fun d c po h => ?_⟩
    · by_cases e : d = x
      · simp [e]
      · simp [e]
    · by_cases e : d = x
      · subst e
        rw [if_pos rfl] at h
        cases h
        exact ⟨t0, .non, valV_pos rfl, by rw [upd_ne nf.symm, upd_same], rfl⟩
      · rw [if_neg e] at h
        cases h
  have I0 : WInv rss x y (x + ((0 : Nat) : Int)) (fun d => if d = x then some (0, none) else none) := by
    refine ⟨if_pos rfl, fun d c po h => ?_, fun b cb pob h hb => ?_⟩
    · by_cases e : d = x
      · subst e
        rw [if_pos rfl] at h
        cases h
        exact ⟨Int.le_refl _, by omega, .inl ⟨rfl, rfl, rfl⟩⟩
      · rw [if_neg e] at h
        cases h
    · by_cases e : b = x
      · omega
      · rw [if_neg e] at h
        cases h
  refine ⟨_, rfl, p, _, _, _, rfl, rfl, SqT.of (s1 _ _ hp), rfl, _, rfl, p, _, _, _, rfl, rfl, SqT.of (s1 _ _ hp), rfl, x, y, rfl, ⟨by omega, by omega, by omega, by omega⟩, ?_⟩
  refine for_range (lo := x) (n := (y - x).toNat) (fun k σ Hc => (∃ v3 v4 v5 v6, σ = [some (.ref l), some (.ref p), some (.ref f), v3, v4, v5, v6]) ∧ Same H Hc ∧ ∃ kvs ks g, WAt Hc f kvs ks g ∧ WInv rss x y (x + (k : Nat)) g)
    ⟨⟨none, none, none, none, rfl⟩, s1, _, _, _, W0, I0⟩ ?_ ?_
  · rintro i σ Hc hi ⟨⟨v3, v4, v5, v6, rfl⟩, s2, kvs, ks, g, W, I⟩
    have edk : ∀ n : Nat, x + ((n + 1 : Nat) : Int) = x + (n : Nat) + 1 := fun n => by omega
    refine ⟨_, rfl, _, rfl, f, _, rfl, DGet.k (k := Sum.inl (x + (i : Nat))) W.d, _, rfl, ?_⟩
    cases hgd : g (x + (i : Nat)) with
    | none =>
      rw [W.none_ hgd]
      refine iteF ⟨⟨_, _, _, _, rfl⟩, s2, kvs, ks, g, W, ?_⟩
      rw [edk]
      exact I.skip hgd
    | some cp =>
      obtain ⟨cd, pod⟩ := cp
      obtain ⟨td, pvd, hv1, hv2, hv3⟩ := W.val _ _ _ hgd
      rw [hv1]
      refine iteT ?_
      refine ⟨_, rfl, _, rfl, _, rfl, _, _, _, rfl, l, p, x, y, x + (i : Nat), rss, rfl, rfl, rfl, hbk.mono s2, h4, s2 _ _ hp, ho, by omega, by omega, fun q vs L H1 s3 hq hq1 hpt sound full => ?_⟩
      have nqf : q ≠ f := (ne_of_none W.d hq).symm
      refine ⟨q, rfl, ⟨vs, SqL.of hq1⟩, for_list (K := K) (a := q) (xs := vs) (fun m σ Hx => (∃ v4 v5 v6, σ = [some (.ref l), some (.ref p), some (.ref f), some (.int (x + (i : Nat))), v4, v5, v6]) ∧ Same H Hx ∧ KT H1 Hx ∧ Hx q = some (.lst vs) ∧ ∃ kvs ks g, WAt Hx f kvs ks g ∧ WIn rss x y (x + (i : Nat)) g cd pod (L.take m))
        ⟨⟨_, _, _, rfl⟩, s2.trans s3, KT.of (Same.refl _), hq1, kvs, ks, g, W.mono s3, I.enter hgd⟩ (fun m σ Hx _ ⟨_, _, _, h, _⟩ => SqL.of h) ?_ ?_⟩
      · rintro m z σ Hx hz ⟨⟨v4, v5, v6, rfl⟩, s4, kt, hqx, kvs, ks, g, W, I⟩
        obtain ⟨⟨c, e, j⟩, hL, tp, qp, rfl, ht1, ht2⟩ := hpt.get hz
        have hL2 : L.take (m + 1) = L.take m ++ [(c, e, j)] := by rw [List.take_succ, hL]; rfl
        obtain ⟨sd1, sd2, sd3⟩ := sound c e j (List.mem_of_getElem? hL)
        have ht1x := kt _ _ ht1
        have ht2x := kt _ _ ht2
        refine ⟨tp, _, rfl, SqT.of ht1x, rfl, _, _, rfl, _, _, rfl, rfl, ?_⟩
        obtain ⟨td, pvd, hv1, hv2, hv3⟩ := W.val _ _ _ I.cur
        refine ⟨_, rfl, _, rfl, f, .ref td, rfl, (by rw [← hv1]; exact DGet.k (k := Sum.inl (x + (i : Nat))) W.d), td, _, _, _, rfl, rfl, SqT.of hv2, rfl, _, rfl, _, _, rfl, rfl, ?_⟩
        refine ⟨_, rfl, qp, _, _, _, rfl, rfl, SqT.of ht2x, rfl, _, rfl, f, _, rfl, DGet.k (k := Sum.inl e) W.d, _, rfl, ?_⟩
        -- the store, whatever led to it
        have store : (∀ ce poe, g e = some (ce, poe) → cd + c ≤ ce) → ∀ t, Hx t = none → ∃ H', DPut (upd Hx t (.tup [.int (cd + c), .ref qp])) f (.int e) (.ref t) H' ∧ (Same H H' ∧ KT H1 H' ∧ H' q = some (.lst vs) ∧ ∃ kvs ks g, WAt H' f kvs ks g ∧ WIn rss x y (x + (i : Nat)) g cd pod (L.take (m + 1))) := by
          intro hle2 t ht
          have nft : f ≠ t := ne_of_none W.d ht
          have W1 : WAt (upd Hx t (.tup [.int (cd + c), .ref qp])) f kvs ks g := W.mono (snewR ht)
          have I1 := I.put (j := j) sd1 sd2 sd3 hle2
          have kl : kvs.length < sizeLine := by
            rw [W.klen]
            exact small15 (Nat.lt_of_le_of_lt (W.len ho fun d c po h => ⟨(I.from_ d c po h).1, (I.from_ d c po h).2.1⟩) (by decide))
          obtain ⟨ks', W2⟩ := W1.put (e := e) (c := cd + c) (po := some (x + (i : Nat), j)) (pv := .ref qp) upd_same ⟨qp, rfl, by rw [upd_ne (ne_of_none ht2x ht)]; exact ht2x⟩
          refine ⟨_, DPut.k (k := Sum.inl e) W1.d kl, snew (s4.trans (snewR ht)) hf, (kt.trans (KT.of (snewR ht))).trans (KT.dct W1.d), ?_, _, ks', _, W2, ?_⟩
          · rw [upd_ne nqf, upd_ne (ne_of_none hqx ht)]
            exact hqx
          · rw [hL2]
            exact I1
        cases hge : g e with
        | none =>
          rw [W.none_ hge]
          refine iteT (iteT ?_)
          refine ⟨_, rfl, _, rfl, by show 2 ≤ sizeLine; decide, fun t ht => ?_⟩
          obtain ⟨H', hd1, b1, b2, b3, b4⟩ := store (fun ce poe h => by rw [hge] at h; cases h) t ht
          refine ⟨_, rfl, _, rfl, qp, _, _, _, rfl, rfl, SqT.of (by rw [upd_ne (ne_of_none ht2x ht)]; exact ht2x), rfl, f, H', rfl, hd1, ?_⟩
          exact ⟨⟨_, _, _, rfl⟩, b1, b2, b3, b4⟩
        | some cpe =>
          obtain ⟨ce, poe⟩ := cpe
          obtain ⟨te, pve, he1, he2, he3⟩ := W.val _ _ _ hge
          rw [he1]
          refine iteF ?_
          refine ⟨_, rfl, _, rfl, _, rfl, qp, _, _, _, rfl, rfl, SqT.of ht2x, rfl, f, .ref te, rfl, (by rw [← he1]; exact DGet.k (k := Sum.inl e) W.d), te, _, _, _, rfl, rfl, SqT.of he2, rfl, _, _, rfl, rfl, _, rfl, ?_⟩
          by_cases hlt2 : cd + c < ce
          · refine iteTd hlt2 ?_
            refine ⟨_, rfl, _, rfl, by show 2 ≤ sizeLine; decide, fun t ht => ?_⟩
            obtain ⟨H', hd1, b1, b2, b3, b4⟩ := store (fun ce' poe' h => by rw [hge] at h; cases h; omega) t ht
            refine ⟨_, rfl, _, rfl, qp, _, _, _, rfl, rfl, SqT.of (by rw [upd_ne (ne_of_none ht2x ht)]; exact ht2x), rfl, f, H', rfl, hd1, ?_⟩
            exact ⟨⟨_, _, _, rfl⟩, b1, b2, b3, b4⟩
          · refine iteFd hlt2 ⟨⟨_, _, _, rfl⟩, s4, kt, hqx, kvs, ks, g, W, ?_⟩
            rw [hL2]
            exact I.stay hge (by omega)
      · rintro σ Hx ⟨⟨v4, v5, v6, rfl⟩, s4, kt, hqx, kvs, ks, g, W, I⟩
        rw [hpt.length, List.take_length] at I
        refine ⟨⟨_, _, _, _, rfl⟩, s4, kvs, ks, g, W, ?_⟩
        rw [edk]
        exact I.leave full
  · rintro σ Hc ⟨⟨v3, v4, v5, v6, rfl⟩, s2, kvs, ks, g, W, I⟩
    have e : x + (((y - x).toNat : Nat) : Int) = y := by omega
    rw [e] at I
    exact ⟨_, rfl, k f kvs ks g Hc s2 hf W I⟩

end
end Stp
namespace Stp
open PySem PySem.Spec PyProof.Rows L2
section
variable {P : Program} {w : World} {K : PySem.W.Frag} {mg : Str → Option Value} {base : Heap}

/-- a part of a cut -/
def CuAt (H : Hp) (v : V) (z : Int × Int × Nat) : Prop := ∃ q, v = .ref q ∧ H q = some (.tup [.int z.1, .int z.2.1, .int (z.2.2 : Int)])
theorem CuAt.kt {H H' : Hp} (s : KT H H') {v : V} {z : Int × Int × Nat} : CuAt H v z → CuAt H' v z := fun ⟨q, e, h⟩ => ⟨q, e, s _ _ h⟩

theorem sc_cut_by : FnScope ["found", "go", "parts", "part"] ["found", "go"] (defScope sCutBy) := ⟨rfl, rfl, rfl, by decide +kernel, rfl, by decide +kernel, by decide +kernel⟩

def sp_cut_by : Sp := sp2 fun a b H Q => ∃ f y kvs ks g x yy day rss c po, a = .ref f ∧ b = .int y ∧ WAt H f kvs ks g ∧ WInv rss x yy day g ∧ g y = some (c, po) ∧ y ≤ x + 14 ∧ ∀ q vs cut H', Same H H' → H q = none → H' q = some (.lst vs) → All2 (CuAt H') vs cut → Chain rss x y cut c → Q (.ref q) H'
theorem has_cut_by (T : Tx K mg) : Has P w K mg base "cut_by" 1 ["found", "go"] (sp_cut_by) := by
  have g_nd := sc_cut_by.nd
  refine T.d_cut_by.has sc_cut_by (fun _ _ _ _ _ _ us hl => match us, hl with | [_, _], _ => rfl) sp2_len (fun cdv A outer s H vs Q E hr h => ?_)
  obtain ⟨a0, a1, rfl, h⟩ := h
  obtain ⟨f, y, kvs, ks, g, x, yy, day, rss, c, po, rfl, rfl, W, I, hy, h14, k⟩ := h
  refine ⟨_, (pss_cons (ps_set (i := 2) g_nd rfl (by first | exact Or.inl rfl | exact Or.inr rfl) (pe_lst pa_nil))
        (pss_cons (ps_set (i := 3) g_nd rfl (by first | exact Or.inl rfl | exact Or.inr rfl) (pe_ix (r := rIxT K) ix_tup (pe_dget (hu_of hr) (pv 0) (pv 1) (fun _ _ => rfl)) pe_int (fun _ _ => rfl)))
        (pss_cons (ps_while PassesOwn.never (pt_cmpR op_notN (pv 3) pe_non (nomark _)) (pss_cons (ps_expr (pe_bm PySem.F.plainAttrs_list PySem.F.slot_list_insert PySem.F.type_list_insert mt_insert (pv 2) (pa_cons pe_int (pa_cons (pv 3) pa_nil))))
        (pss_one (ps_set (i := 3) g_nd rfl (by first | exact Or.inl rfl | exact Or.inr rfl) (pe_ix (r := rIxT K) ix_tup (pe_dget (hu_of hr) (pv 0) (pe_ix (r := rIxT K) ix_tup (pv 3) pe_int (fun _ _ => rfl)) (fun _ _ => rfl)) pe_int (fun _ _ => rfl))))))
        (pss_one (ps_ret (pv 2)))))), ?_⟩
  refine ⟨Nat.zero_le _, fun P hP => ?_⟩
  have s0 : Same H (upd H P (.lst [])) := snewR hP
  obtain ⟨t, pv, hv1, hv2, hv3⟩ := W.val _ _ _ hy
  refine ⟨_, rfl, _, rfl, f, .ref t, rfl, (by rw [← hv1]; exact DGet.k (k := Sum.inl y) (s0 _ _ W.d)), t, _, _, _, rfl, rfl, SqT.of (s0 _ _ hv2), rfl, ?_⟩
  refine ⟨fun m σ Hc => ∃ d cd pod pv vs cut t, m = (d - x).toNat ∧ σ = [some (.ref f), some (.int y), some (.ref P), some pv] ∧ Same H Hc ∧ g d = some (cd, pod) ∧ PvAt Hc d pv pod ∧ Hc P = some (.lst vs) ∧ All2 (CuAt Hc) vs cut ∧ Chain rss d y cut t ∧ cd + t = c ∧ (vs.length : Int) + d ≤ y,
    ⟨_, y, c, po, pv, [], [], 0, rfl, rfl, s0, hy, hv3.kt (KT.of s0), upd_same, .nil, .nil y, by omega, by show ((0 : Nat) : Int) + y ≤ y; omega⟩, ?_⟩
  rintro m σ Hc ⟨d, cd, pod, pv, vs, cut, t, rfl, rfl, s1, hgd, hpv, hPc, hcu, hch, hsum, hlen⟩
  obtain ⟨d1, d2, d3⟩ := I.from_ _ _ _ hgd
  cases pod with
  | none =>
    cases (show pv = .non from hpv)
    refine ⟨_, rfl, rfl, _, rfl, iteFn rfl ?_⟩
    rcases d3 with ⟨e1, _, e3⟩ | ⟨b, j, _, _, _, e, _⟩
    · refine ⟨_, rfl, k P vs cut Hc s1 hP hPc hcu ?_⟩
      subst e1 e3
      have e4 : t = c := by omega
      subst e4
      exact hch
    · cases e
  | some bj =>
    obtain ⟨b, j⟩ := bj
    obtain ⟨q, rfl, hq⟩ := hpv
    refine ⟨_, rfl, rfl, _, rfl, iteTn (by simp) ?_⟩
    rcases d3 with ⟨_, e, _⟩ | ⟨b', j', cb, pob, cc, e, b1, b2, b3, b4, b5, b6⟩
    · cases e
    · cases e
      refine ⟨fun σ' H' => ∃ cb pob pv' vs' cut' t', σ' = [some (.ref f), some (.int y), some (.ref P), some pv'] ∧ Same H H' ∧ g b = some (cb, pob) ∧ PvAt H' b pv' pob ∧ H' P = some (.lst vs') ∧ All2 (CuAt H') vs' cut' ∧ Chain rss b y cut' t' ∧ cb + t' = c ∧ (vs'.length : Int) + b ≤ y, ?_, ?_⟩
      · rintro σ' H' ⟨cb, pob, pv', vs', cut', t', rfl, r⟩
        exact ⟨(b - x).toNat, by omega, b, cb, pob, pv', vs', cut', t', rfl, rfl, r⟩
      · refine ⟨_, rfl, .inl ⟨rfl, _, SqL.of hPc⟩, _, rfl, P, vs, 0, _, rfl, rfl, hPc, small15 (by omega), Int.le_refl _, by decide, ?_⟩
        have kt : KT Hc (upd Hc P (.lst (vs.take (0 : Int).toNat ++ [.ref q] ++ vs.drop (0 : Int).toNat))) := KT.lst hPc
        have sP : Same H (upd Hc P (.lst (vs.take (0 : Int).toNat ++ [.ref q] ++ vs.drop (0 : Int).toNat))) := snew s1 hP
        obtain ⟨tb, pvb, hb1, hb2, hb3⟩ := W.val _ _ _ b4
        refine ⟨_, rfl, _, rfl, q, _, _, _, rfl, rfl, SqT.of (kt _ _ hq), rfl, f, .ref tb, rfl, (by rw [← hb1]; exact DGet.k (k := Sum.inl b) (sP _ _ W.d)), tb, _, _, _, rfl, rfl, SqT.of (sP _ _ hb2), rfl, ?_⟩
        refine ⟨cb, pob, pvb, _, (b, d, j) :: cut, cc + t, rfl, sP, b4, hb3.kt (KT.of sP), upd_same, ?_, Chain.cons b2 b5 hch, by omega, ?_⟩
        · show All2 _ (.ref q :: vs) _
          exact .cons ⟨q, rfl, kt _ _ hq⟩ (hcu.mono fun _ _ => CuAt.kt kt)
        · show (((V.ref q :: vs).length : Nat) : Int) + b ≤ y
          rw [List.length_cons]
          omega

theorem lc_vals {d : Addr} {od : Obj} {kvs : List (Key × V)} {g : TG} {tt : TT} {te : TE} {vs : List Nat} {σ : L2.St} {H1 : Hp} {D : Addr} {Qd : Hp → Prop} (Pv : Nat → Hp → Prop) (h0 : Pv 0 (upd H1 D (.lst []))) (hl : ∀ i H, Pv i H → H d = some (.frz od (.dK kvs)))
    (hs : ∀ (i : Nat) (k : Key) (x : V) (H : Hp), kvs[i]? = some (k, x) → Pv i H → g x (wipe σ vs) H fun σ2 H2 => wipe σ2 vs = wipe σ vs ∧ tt σ2 H2 fun b H3 =>
      if b = true then te σ2 H3 fun y H4 => ∃ acc, H4 D = some (.lst acc) ∧ acc.length < sizeLine ∧ Pv (i + 1) (upd H4 D (.lst (acc ++ [y]))) else Pv (i + 1) H3) (hd : ∀ H, Pv kvs.length H → Qd H) :
    ∃ W : Nat → Nat → Hp → Prop, (∃ m, W 0 m (upd H1 D (.lst []))) ∧ ∀ i m H, W i m H →
      ((Itd d od kvs).stop i H ∧ Qd H) ∨ ((Itd d od kvs).go i H ∧ ∃ Nx : Hp → Prop, (∀ H', Nx H' → ∃ m', m' < m ∧ W (i + 1) m' H') ∧ ∀ x H', (Itd d od kvs).yld i H x H' → g x (wipe σ vs) H' fun σ2 H2 => wipe σ2 vs = wipe σ vs ∧ tt σ2 H2 fun b H3 =>
        if b = true then te σ2 H3 fun y H4 => ∃ acc, H4 D = some (.lst acc) ∧ acc.length < sizeLine ∧ Nx (upd H4 D (.lst (acc ++ [y]))) else Nx H3) := by
  refine ⟨fun i m H => m = kvs.length - i ∧ i ≤ kvs.length ∧ Pv i H, ⟨kvs.length, by simp, Nat.zero_le _, h0⟩, ?_⟩
  rintro i m H ⟨rfl, hi, p⟩
  have q := hl i H p
  by_cases hlt : i < kvs.length
  · refine .inr ⟨⟨q, hlt⟩, Pv (i + 1), fun H' p' => ⟨kvs.length - (i + 1), by omega, rfl, hlt, p'⟩, fun x H' y => ?_⟩
    obtain ⟨e, k, hk⟩ := y
    subst e
    exact hs i k x _ hk p
  · have e : i = kvs.length := by omega
    subst e
    exact .inl ⟨⟨q, Nat.le_refl _⟩, hd H p⟩
theorem valV_get : ∀ {kvs : List (Key × V)} {j : Nat} {k : Key} {v : V}, (kvs.map (·.1)).Nodup → kvs[j]? = some (k, v) → valV kvs k = some v
  | [], _, _, _, _, h => by simp at h
  | p :: r, 0, k, v, _, h => by
    have e : p = (k, v) := Option.some.inj h
    subst e
    exact valV_pos rfl
  | p :: r, j + 1, k, v, nd, h => by
    have nd : (p.1 :: r.map (·.1)).Nodup := nd
    obtain ⟨h1, h2⟩ := List.nodup_cons.mp nd
    have h : r[j]? = some (k, v) := h
    have ne : ¬ p.1 = k := fun e => h1 (List.mem_map.mpr ⟨(k, v), List.mem_of_getElem? h, e.symm⟩)
    rw [valV_neg ne]
    exact valV_get h2 h
theorem WAt.knd {H : Hp} {f : Addr} {kvs : List (Key × V)} {ks : List Int} {g : Gm} (W : WAt H f kvs ks g) : (kvs.map (·.1)).Nodup := by
  rw [W.keys]
  exact List.Pairwise.map _ (fun a b (h : a ≠ b) => fun q => h (Sum.inl.inj q)) W.nd

theorem sc_paper_by : FnScope ["found", "stay", "most", "heights", "coins", "part", "day", "k"] ["found", "stay"] (defScope sPaperBy) := ⟨rfl, rfl, rfl, by decide +kernel, rfl, by decide +kernel, by decide +kernel⟩

def sp_paper_by : Sp := sp2 fun a s H Q => ∃ f p x y kvs ks g, a = .ref f ∧ s = .ref p ∧ H p = some (.tup [.int x, .int y]) ∧ StOk x y ∧ WAt H f kvs ks g ∧ (g x).isSome = true ∧ (∀ d c po, g d = some (c, po) → x ≤ d ∧ d ≤ y) ∧ ∀ q most H', Same H H' → (∀ d c po, g d = some (c, po) → c ≤ most) → H' q = some (.lst ((paperOf g most x y).map V.int)) → Q (.ref q) H'
theorem has_paper_by (T : Tx K mg) : Has P w K mg base "paper_by" 1 ["found", "stay"] (sp_paper_by) := by
  have g_nd := sc_paper_by.nd
  refine T.d_paper_by.has sc_paper_by (fun _ _ _ _ _ _ us hl => match us, hl with | [_, _], _ => rfl) sp2_len (fun cdv A outer s H vs Q E hr h => ?_)
  obtain ⟨a0, a1, rfl, h⟩ := h
  obtain ⟨f, p, x, y, kvs, ks, g, rfl, rfl, hp, ho, W, hx0, hdm, k⟩ := h
  refine ⟨_, (pss_cons (ps_set (i := 2) g_nd rfl (by first | exact Or.inl rfl | exact Or.inr rfl) (pe_callB (cr_max rfl) (by rfl) T.b_max (by decide +kernel) (pa_cons (pe_lock (pe_lc (own := [("coins", 4), ("part", 5)]) (tt := tYes) (g := gTup K 2 (gCons (gName 4) (gCons (gName 5) gNil))) rfl g_nd (pi_values (pv 0)) (blkOk_by (own := [("coins", 4), ("part", 5)]) (N := ["found", "stay", "most", "heights", "coins", "part", "day", "k"]) (sc := defScope sPaperBy) (by decide +kernel)) (fun _ _ _ _ _ => (pg_tup rfl (pgs_cons (pg_name (i := 4) g_nd rfl (by first | exact Or.inl rfl | exact Or.inr rfl)) (pgs_cons (pg_name (i := 5) g_nd rfl (by first | exact Or.inl rfl | exact Or.inr rfl)) pgs_nil)))) (fun _ _ _ _ _ => pts_nil) (fun _ _ _ _ _ => (pv 4)))) pa_nil)))
        (pss_cons (ps_set (i := 3) g_nd rfl (by first | exact Or.inl rfl | exact Or.inr rfl) (pe_lc (own := [("day", 6)]) (tt := tYes) (g := gName 6) rfl g_nd (pi_range2 (by rfl) T.b_range (pa_cons (pe_ix (r := rIxT K) ix_tup (pv 1) pe_int (fun _ _ => rfl)) (pa_cons (pe_op op_add (pe_ix (r := rIxT K) ix_tup (pv 1) pe_int (fun _ _ => rfl)) pe_int) pa_nil))) (blkOk_by (own := [("day", 6)]) (N := ["found", "stay", "most", "heights", "coins", "part", "day", "k"]) (sc := defScope sPaperBy) (by decide +kernel)) (fun _ _ _ _ _ => (pg_name (i := 6) g_nd rfl (by first | exact Or.inl rfl | exact Or.inr rfl))) (fun _ _ _ _ _ => pts_nil) (fun _ _ _ _ _ => (pe_ifExp (pt_cmp (pc_din (hu_of hr) (pv 6) (pv 0))) (pe_ix (r := rIxT K) ix_tup (pe_dget (hu_of hr) (pv 0) (pv 6) (fun _ _ => rfl)) pe_int (fun _ _ => rfl)) (pv 2)))))
        (pss_one (ps_ret (pe_lc (own := [("k", 7)]) (tt := tYes) (g := gName 7) rfl g_nd (pi_range1 (by rfl) T.b_range (pa_cons (pe_op op_sub (pe_callB (r := rLenS K) (id := "len") clen (by rfl) T.b_len (by decide +kernel) (pa_cons (pv 3) pa_nil)) pe_int) pa_nil)) (blkOk_by (own := [("k", 7)]) (N := ["found", "stay", "most", "heights", "coins", "part", "day", "k"]) (sc := defScope sPaperBy) (by decide +kernel)) (fun _ _ _ _ _ => (pg_name (i := 7) g_nd rfl (by first | exact Or.inl rfl | exact Or.inr rfl))) (fun _ _ _ _ _ => pts_nil) (fun _ _ _ _ _ => (pe_op op_sub (pe_ix (r := rIxL K) ix_list (pv 3) (pe_op op_add (pv 7) pe_int) (fun _ _ => rfl)) (pe_ix (r := rIxL K) ix_list (pv 3) (pv 7) (fun _ _ => rfl))))))))), ?_⟩
  have hlo := ho.lo
  have hle := ho.le
  have hlt := ho.lt
  have hhi := ho.hi
  have klen : kvs.length ≤ 15 := by rw [W.klen]; exact W.len ho hdm
  refine ⟨f, .dK kvs, W.d, trivial, fun od => ?_⟩
  refine ⟨_, rfl, f, od, kvs, rfl, upd_same, fun D hD => ?_⟩
  have hDf : D ≠ f := fun z => by
    rw [z, upd_same] at hD
    cases hD
  have hD0 : H D = none := by rw [upd_ne hDf] at hD; exact hD
  have tupN : ∀ {t : Addr} {xs : List V}, H t = some (.tup xs) → t ≠ f := fun h => ne_of h W.d (by intro z; cases z)
  refine lc_vals (d := f) (od := od) (kvs := kvs) (fun i Hc => Same (upd H f (.frz od (.dK kvs))) Hc ∧ ∃ ns : List Int, Hc D = some (.lst (ns.map V.int)) ∧ ns.length = i ∧ ∀ (j : Nat) (n : Int), ns[j]? = some n → ∃ d po v, kvs[j]? = some (Sum.inl d, v) ∧ g d = some (n, po))
    ⟨snewR hD, [], upd_same, rfl, fun j n h => by simp at h⟩ (fun i Hc ⟨s, _⟩ => s _ _ upd_same) ?_ ?_
  · rintro i k2 v Hc hk ⟨s1, ns, hn, hnl, hns⟩
    have hik : i < kvs.length := (List.getElem?_eq_some_iff.mp hk).1
    obtain ⟨d, hd1, hd2⟩ : ∃ d, ks[i]? = some d ∧ k2 = Sum.inl d := by
      have e : (kvs.map (·.1))[i]? = some k2 := by rw [List.getElem?_map, hk]; rfl
      rw [W.keys, List.getElem?_map] at e
      cases q : ks[i]? with
      | none => rw [q] at e; cases e
      | some d => rw [q] at e; exact ⟨d, rfl, (Option.some.inj e).symm⟩
    subst hd2
    obtain ⟨cp, hg⟩ := Option.isSome_iff_exists.mp ((W.dom d).mp (List.mem_of_getElem? hd1))
    obtain ⟨c, po⟩ := cp
    obtain ⟨t, pv, hv1, hv2, hv3⟩ := W.val _ _ _ hg
    rw [valV_get W.knd hk] at hv1
    cases hv1
    have ht : Hc t = some (.tup [.int c, pv]) := s1 _ _ (by rw [upd_ne (tupN hv2)]; exact hv2)
    refine ⟨t, _, rfl, SqT.of ht, rfl, _, _, rfl, _, _, rfl, rfl, rfl, ?_⟩
    refine ⟨_, rfl, _, hn, by rw [List.length_map, hnl]; exact small15 (by omega), snew s1 hD, ns ++ [c], by rw [upd_same, List.map_append]; rfl, by rw [List.length_append, hnl]; rfl, fun j n hj => ?_⟩
    by_cases hjl : j < ns.length
    · rw [List.getElem?_append_left hjl] at hj
      exact hns j n hj
    · rw [List.getElem?_append_right (by omega)] at hj
      have e : j - ns.length = 0 := by
        have := (List.getElem?_eq_some_iff.mp hj).1
        simp at this
        omega
      rw [e] at hj
      cases hj
      have e2 : j = i := by omega
      subst e2
      exact ⟨d, po, _, hk, hg⟩
  rintro H1 ⟨s1, ns, hn, hnl, hns⟩
  refine ⟨s1 _ _ upd_same, ?_⟩
  have s2 : Same H (upd H1 f (.dK kvs)) := fun b o h => by
    by_cases e : b = f
    · subst e
      rw [W.d] at h
      cases h
      exact upd_same
    · rw [upd_ne e]
      exact s1 _ _ (by rw [upd_ne e]; exact h)
  have hn2 : (upd H1 f (.dK kvs)) D = some (.lst (ns.map V.int)) := by rw [upd_ne hDf]; exact hn
  have allc : ∀ d c po, g d = some (c, po) → c ∈ ns := fun d c po hg => by
    obtain ⟨j, hj, e⟩ := List.mem_iff_getElem.mp ((W.dom d).mpr (by rw [hg]; rfl))
    have hjk : j < kvs.length := by rw [W.klen]; exact hj
    have hjn : j < ns.length := by rw [hnl]; exact hjk
    obtain ⟨d', po', v, q1, q2⟩ := hns j ns[j] (List.getElem?_eq_getElem hjn)
    have e2 : (kvs.map (·.1))[j]? = some (Sum.inl d') := by rw [List.getElem?_map, q1]; rfl
    rw [W.keys, List.getElem?_map, List.getElem?_eq_getElem hj, e] at e2
    cases e2
    rw [hg] at q2
    cases q2
    exact List.getElem_mem hjn
  refine ⟨D, ns, rfl, SqL.of hn2, ?_, fun most _ hmost => ?_⟩
  · obtain ⟨cp, hg⟩ := Option.isSome_iff_exists.mp hx0
    exact List.length_pos_of_mem (allc _ cp.1 cp.2 hg)
  have hm : ∀ d c po, g d = some (c, po) → c ≤ most := fun d c po h => hmost c (allc d c po h)
  generalize upd H1 f (.dK kvs) = H2 at s2
  -- heights
  refine ⟨_, rfl, p, _, _, _, rfl, rfl, SqT.of (s2 _ _ hp), rfl, _, rfl, p, _, _, _, rfl, rfl, SqT.of (s2 _ _ hp), rfl, _, _, rfl, rfl, x, y + 1, rfl, ⟨by omega, by omega, by omega, by omega⟩, fun D2 hD2 => ?_⟩
  have W2 := W.mono s2
  refine lc_range (lo := x) (n := (y + 1 - x).toNat) (fun i Hc => Same H2 Hc ∧ Hc D2 = some (.lst ((List.range i).map fun j => V.int (hgt g most (x + (j : Nat))))))
    ⟨snewR hD2, upd_same⟩ ?_ ?_
  · rintro i Hc hi ⟨s3, hc⟩
    have W3 := W2.mono s3
    have fin : Same H2 (upd Hc D2 (.lst ((List.range i).map (fun j => V.int (hgt g most (x + (j : Nat)))) ++ [V.int (hgt g most (x + (i : Nat)))]))) ∧ (upd Hc D2 (.lst ((List.range i).map (fun j => V.int (hgt g most (x + (j : Nat)))) ++ [V.int (hgt g most (x + (i : Nat)))]))) D2 = some (.lst ((List.range (i + 1)).map fun j => V.int (hgt g most (x + (j : Nat))))) :=
      ⟨snew s3 hD2, by rw [upd_same, List.range_succ, List.map_append]; rfl⟩
    refine ⟨rfl, ?_⟩
    refine ⟨_, rfl, _, rfl, f, _, rfl, DGet.k (k := Sum.inl (x + (i : Nat))) W3.d, _, rfl, ?_⟩
    cases hg : g (x + (i : Nat)) with
    | none =>
      rw [W3.none_ hg]
      have e : hgt g most (x + (i : Nat)) = most := by unfold hgt; rw [hg]
      rw [e] at fin
      exact iteF ⟨_, rfl, _, hc, by rw [List.length_map, List.length_range]; exact small15 (by omega), fin⟩
    | some cp =>
      obtain ⟨c, po⟩ := cp
      obtain ⟨t, pv, hv1, hv2, hv3⟩ := W3.val _ _ _ hg
      have e : hgt g most (x + (i : Nat)) = c := by unfold hgt; rw [hg]
      rw [e] at fin
      have dg : DGet Hc f (.int (x + (i : Nat))) (some (.ref t)) := by rw [← hv1]; exact DGet.k (k := Sum.inl (x + (i : Nat))) W3.d
      rw [hv1]
      exact iteT ⟨_, rfl, _, rfl, f, .ref t, rfl, dg, t, _, _, _, rfl, rfl, SqT.of hv2, rfl, _, hc, by rw [List.length_map, List.length_range]; exact small15 (by omega), fin⟩
  rintro H3 ⟨s3, hc⟩
  -- the paper
  have el : ((List.range (y + 1 - x).toNat).map fun j => V.int (hgt g most (x + (j : Nat)))).length = (y - x).toNat + 1 := by rw [List.length_map, List.length_range]; omega
  refine ⟨_, rfl, D2, _, rfl, .inl (SqL.of hc), _, _, rfl, rfl, _, rfl, by rw [el]; omega, by rw [el]; omega, fun D3 hD3 => ?_⟩
  have en : ((((((List.range (y + 1 - x).toNat).map fun j => V.int (hgt g most (x + (j : Nat)))).length : Nat) : Int) - 1)).toNat = (y - x).toNat := by rw [el]; omega
  rw [en]
  have at_ : ∀ (Hc : Hp), Same H3 Hc → ∀ j : Nat, j < (y + 1 - x).toNat → SqL K Hc D2 ((List.range (y + 1 - x).toNat).map fun j => V.int (hgt g most (x + (j : Nat)))) ∧ ((List.range (y + 1 - x).toNat).map fun j => V.int (hgt g most (x + (j : Nat))))[j]? = some (V.int (hgt g most (x + (j : Nat)))) := fun Hc s j hj => by
    refine ⟨SqL.of (s _ _ hc), ?_⟩
    rw [List.getElem?_map, List.getElem?_range hj]
    rfl
  refine lc_range (lo := 0) (n := (y - x).toNat) (fun i Hc => Same H3 Hc ∧ Hc D3 = some (.lst ((List.range i).map fun j => V.int (hgt g most (x + (j : Nat) + 1) - hgt g most (x + (j : Nat))))))
    ⟨snewR hD3, upd_same⟩ ?_ ?_
  · rintro i Hc hi ⟨s4, hd⟩
    obtain ⟨a1, a2⟩ := at_ Hc s4 (i + 1) (by omega)
    obtain ⟨a3, a4⟩ := at_ Hc s4 i (by omega)
    have e0 : (0 : Int) + (i : Nat) = ((i : Nat) : Int) := by omega
    have e1 : ((i : Nat) : Int) + 1 = ((i + 1 : Nat) : Int) := by omega
    have e2 : x + ((i + 1 : Nat) : Int) = x + (i : Nat) + 1 := by omega
    refine ⟨rfl, ?_⟩
    rw [e0]
    refine ⟨_, rfl, _, rfl, _, _, rfl, rfl, D2, _, _, .int (hgt g most (x + ((i + 1 : Nat) : Int))), rfl, rfl, a1, by rw [e1]; exact atI_nat a2, _, rfl, _, rfl, D2, _, _, .int (hgt g most (x + (i : Nat))), rfl, rfl, a3, atI_nat a4, _, _, rfl, rfl, ?_⟩
    refine ⟨_, hd, by rw [List.length_map, List.length_range]; exact small15 (by omega), snew s4 hD3, ?_⟩
    rw [upd_same, List.range_succ, List.map_append, e2]
    rfl
  rintro H4 ⟨s4, hd⟩
  refine k D3 most H4 ((s2.trans s3).trans s4) hm ?_
  rw [hd]
  unfold paperOf
  rw [List.map_map]
  rfl

end
end Stp
namespace Stp
open PySem PySem.Spec PyProof.Rows L2
section
variable {P : Program} {w : World} {K : PySem.W.Frag} {mg : Str → Option Value} {base : Heap}

def ResAt (H : Hp) (q : Addr) : Res → Prop
  | .had c cut paper => ∃ a1 a2 vs, H q = some (.tup [.str "had", .int c, .ref a1, .ref a2]) ∧ H a1 = some (.lst vs) ∧ All2 (CuAt H) vs cut ∧ H a2 = some (.lst (paper.map V.int))
  | .off days => ∃ a1, H q = some (.tup [.str "off", .ref a1]) ∧ H a1 = some (.lst (days.map V.int))
theorem ResAt.mono {H H' : Hp} (s : Same H H') {q : Addr} : ∀ {r : Res}, ResAt H q r → ResAt H' q r
  | .had _ _ _, ⟨a1, a2, vs, h1, h2, h3, h4⟩ => ⟨a1, a2, vs, s _ _ h1, s _ _ h2, h3.mono fun _ _ => CuAt.kt (KT.of s), s _ _ h4⟩
  | .off _, ⟨a1, h1, h2⟩ => ⟨a1, s _ _ h1, s _ _ h2⟩
theorem All2.ok {K : PySem.W.Frag} {H : Hp} : ∀ {bs : List Addr} {rss : List (List Rl)}, All2 (BkAt K H) bs rss → ∀ rs ∈ rss, ∀ r ∈ rs, r.Ok
  | _, _, .nil, _, h => by cases h
  | _, _, .cons x t, rs, h => by
    rcases List.mem_cons.mp h with e | h
    · rw [e]
      exact x.ok
    · exact t.ok rs h
theorem BksAt.ok {K : PySem.W.Frag} {H : Hp} {a : Addr} {rss : List (List Rl)} (h : BksAt K H a rss) : ∀ rs ∈ rss, ∀ r ∈ rs, r.Ok := by
  obtain ⟨bs, _, h2⟩ := h
  exact h2.ok

theorem sc_best : FnScope ["books", "stay", "found"] ["books", "stay"] (defScope sBest) := ⟨rfl, rfl, rfl, by decide +kernel, rfl, by decide +kernel, by decide +kernel⟩

def sp_best (K : PySem.W.Frag) : Sp := sp2 fun a s H Q => ∃ l p x y rss, a = .ref l ∧ s = .ref p ∧ BksAt K H l rss ∧ rss.length ≤ 4 ∧ H p = some (.tup [.int x, .int y]) ∧ StOk x y ∧ ∀ q r H', Same H H' → ResAt H' q r → ResOk rss x y r → Q (.ref q) H'
theorem has_best (T : Tx K mg) : Has P w K mg base "best" 7 ["books", "stay"] (sp_best K) := by
  have g_ways := has_ways (P := P) (w := w) (base := base) T
  have g_cut_by := has_cut_by (P := P) (w := w) (base := base) T
  have g_paper_by := has_paper_by (P := P) (w := w) (base := base) T
  have g_nd := sc_best.nd
  refine T.d_best.has sc_best (fun _ _ _ _ _ _ us hl => match us, hl with | [_, _], _ => rfl) sp2_len (fun cdv A outer s H vs Q E hr h => ?_)
  obtain ⟨a0, a1, rfl, h⟩ := h
  obtain ⟨l, p, x, y, rss, rfl, rfl, hbk, h4, hp, ho, k⟩ := h
  refine ⟨_, (pss_cons (ps_set (i := 2) g_nd rfl (by first | exact Or.inl rfl | exact Or.inr rfl) (pcall g_ways (hr.mono (by decide)) (by rfl) (pa_cons (pv 0) (pa_cons (pv 1) pa_nil))))
        (pss_cons (ps_if (pt_cmp (pc_dnotin (hu_of hr) (pe_ix (r := rIxT K) ix_tup (pv 1) pe_int (fun _ _ => rfl)) (pv 2))) (pss_one (ps_ret (pe_tup (pa_cons pe_str (pa_cons (pe_callB (call_sortedDI rfl) (by rfl) T.b_sorted (by decide +kernel) (pa_cons (pv 2) pa_nil)) pa_nil))))) pss_nil)
        (pss_one (ps_ret (pe_tup (pa_cons pe_str (pa_cons (pe_ix (r := rIxT K) ix_tup (pe_dget (hu_of hr) (pv 2) (pe_ix (r := rIxT K) ix_tup (pv 1) pe_int (fun _ _ => rfl)) (fun _ _ => rfl)) pe_int (fun _ _ => rfl)) (pa_cons (pcall g_cut_by (hr.mono (by decide)) (by rfl) (pa_cons (pv 2) (pa_cons (pe_ix (r := rIxT K) ix_tup (pv 1) pe_int (fun _ _ => rfl)) pa_nil))) (pa_cons (pcall g_paper_by (hr.mono (by decide)) (by rfl) (pa_cons (pv 2) (pa_cons (pv 1) pa_nil))) pa_nil))))))))), ?_⟩
  have hle := ho.le
  have hlt := ho.lt
  refine ⟨_, rfl, _, rfl, _, _, rfl, l, p, x, y, rss, rfl, rfl, hbk, h4, hp, ho, fun f kvs ks g H1 s1 hf W I => ?_⟩
  have hdm : ∀ d c po, g d = some (c, po) → x ≤ d ∧ d ≤ y := fun d c po h => ⟨(I.from_ d c po h).1, (I.from_ d c po h).2.1⟩
  refine ⟨_, rfl, p, _, _, _, rfl, rfl, SqT.of (s1 _ _ hp), rfl, _, rfl, f, _, rfl, DGet.k (k := Sum.inl y) W.d, _, rfl, ?_⟩
  cases hg : g y with
  | none =>
    rw [W.none_ hg]
    refine iteT ?_
    refine ⟨_, rfl, f, kvs, ks, rfl, .inl W.d, W.keys, Nat.lt_of_le_of_lt (W.len ho hdm) (by decide), fun ys a1 hperm hsort ha1 => ⟨by show 2 ≤ sizeLine; decide, fun q hq => ?_⟩⟩
    have s2 : Same H1 (upd (upd H1 a1 (.lst (ys.map V.int))) q (.tup [.str "off", .ref a1])) := (snewR ha1).trans (snewR hq)
    have nq : a1 ≠ q := ne_of_none upd_same hq
    have hlt2 : ys.Pairwise (· < ·) := by
      have nd : ys.Nodup := hperm.nodup_iff.mpr W.nd
      exact (hsort.and nd).imp fun {a b} h => by
        have h1 := h.1
        have h2 := h.2
        omega
    exact k q (.off ys) _ (s1.trans s2) ⟨a1, upd_same, by rw [upd_ne nq, upd_same]⟩ (I.off hg hlt2 fun d => by rw [← W.dom d]; exact hperm.mem_iff)
  | some cp =>
    obtain ⟨c, po⟩ := cp
    obtain ⟨t, pv, hv1, hv2, hv3⟩ := W.val _ _ _ hg
    have dg : DGet H1 f (.int y) (some (.ref t)) := by rw [← hv1]; exact DGet.k (k := Sum.inl y) W.d
    rw [hv1]
    refine iteF ?_
    refine ⟨_, rfl, _, rfl, p, _, _, _, rfl, rfl, SqT.of (s1 _ _ hp), rfl, f, .ref t, rfl, dg, t, _, _, _, rfl, rfl, SqT.of hv2, rfl, ?_⟩
    refine ⟨_, rfl, _, rfl, p, _, _, _, rfl, rfl, SqT.of (s1 _ _ hp), rfl, _, _, rfl, f, y, kvs, ks, g, x, y, y, rss, c, po, rfl, rfl, W, I, hg, hle, fun a1 vs cut H2 s2 ha1 hvs hcu hch => ?_⟩
    refine ⟨_, rfl, _, rfl, _, _, rfl, f, p, x, y, kvs, ks, g, rfl, rfl, s2 _ _ (s1 _ _ hp), ho, W.mono s2, by rw [I.top]; rfl, hdm, fun a2 most H3 s3 hm ha2 => ?_⟩
    refine ⟨by show 4 ≤ sizeLine; decide, fun q hq => ?_⟩
    have s4 : Same H3 (upd H3 q (.tup [.str "had", .int c, .ref a1, .ref a2])) := snewR hq
    exact k q (.had c cut (paperOf g most x y)) _ (((s1.trans s2).trans s3).trans s4) ⟨a1, a2, vs, upd_same, s4 _ _ (s3 _ _ hvs), hcu.mono fun _ _ => CuAt.kt (KT.of (s3.trans s4)), s4 _ _ ha2⟩ (I.had hlt hbk.ok hg hm hch)

end
end Stp
namespace Stp
open PySem PySem.Spec PyProof.Rows L2
section
variable {P : Program} {w : World} {K : PySem.W.Frag} {mg : Str → Option Value} {base : Heap}

theorem Chain.costs {rss : List (List Rl)} : ∀ {x y : Int} {cut : List (Int × Int × Nat)} {t : Int}, Chain rss x y cut t → ∃ cs : List Int, cs.sum = t ∧ All2 (fun z c => x ≤ z.1 ∧ z.1 < z.2.1 ∧ z.2.1 ≤ y ∧ Pc rss z.2.2 z.1 z.2.1 c) cut cs
  | _, _, _, _, .nil b => ⟨[], rfl, .nil⟩
  | x, y, _, _, @Chain.cons _ _ m _ j c t l h p r => by
    obtain ⟨cs, h1, h2⟩ := r.costs
    have hle := r.le
    refine ⟨c :: cs, by rw [List.sum_cons, h1], .cons ⟨Int.le_refl _, h, hle, p⟩ (h2.mono fun z c' ⟨a1, a2, a3, a4⟩ => ⟨by omega, a2, a3, a4⟩)⟩
/-- a priced part -/
def PpAt (H : Hp) (v : V) (z : Int × Int × Int) : Prop := ∃ q, v = .ref q ∧ H q = some (.tup [.int z.1, .int z.2.1, .int z.2.2])
theorem PpAt.kt {H H' : Hp} (s : KT H H') {v : V} {z : Int × Int × Int} : PpAt H v z → PpAt H' v z := fun ⟨q, e, h⟩ => ⟨q, e, s _ _ h⟩
theorem StOk.in_ {x y b e : Int} (ho : StOk x y) (h1 : x ≤ b) (h2 : b < e) (h3 : e ≤ y) : StOk b e := by
  have := ho.lo
  have := ho.le
  have := ho.hi
  exact ⟨by omega, h2, by omega, by omega⟩

theorem sc_is_part : FnScope ["books", "stay", "thing", "begin", "end", "number"] ["books", "stay", "thing"] (defScope sIsPart) := ⟨rfl, rfl, rfl, by decide +kernel, rfl, by decide +kernel, by decide +kernel⟩

def sp_is_part (K : PySem.W.Frag) : Sp := sp3 fun a s t H Q => ∃ l p q x y b e j rss c, a = .ref l ∧ s = .ref p ∧ t = .ref q ∧ BksAt K H l rss ∧ H p = some (.tup [.int x, .int y]) ∧ StOk x y ∧ H q = some (.tup [.int b, .int e, .int ((j : Nat) : Int)]) ∧ x ≤ b ∧ b < e ∧ e ≤ y ∧ Pc rss j b e c ∧ ∀ H', Same H H' → Q (.bl true) H'
theorem has_is_part (T : Tx K mg) : Has P w K mg base "is_part" 5 ["books", "stay", "thing"] (sp_is_part K) := by
  have g_is_stay := has_is_stay (P := P) (w := w) (base := base) T
  have g_is_whole := has_is_whole (P := P) (w := w) (base := base) T
  have g_can_be_had := has_can_be_had (P := P) (w := w) (base := base) T
  have g_nd := sc_is_part.nd
  refine T.d_is_part.has sc_is_part (fun _ _ _ _ _ _ us hl => match us, hl with | [_, _, _], _ => rfl) sp3_len (fun cdv A outer s H vs Q E hr h => ?_)
  obtain ⟨a0, a1, a2, rfl, h⟩ := h
  obtain ⟨l, p, q, x, y, b, e, j, rss, c, rfl, rfl, rfl, ⟨bs, hl, hbk⟩, hp, ho, hq, hxb, hbe0, hey, ⟨rs, hrs, hco⟩, k⟩ := h
  refine ⟨_, (pss_cons (ps_if (PW.pt (pw_or (pt_not (pt_val (pe_callB call_isi (by rfl) T.b_isinstance (by decide +kernel) (pa_cons (pv 2) (pa_cons (pe_bltn (v := .ty "tuple") (by rfl) T.b_tuple (by decide +kernel) rfl) pa_nil))))) (pw_or (pt_cmpR op_ne (pe_callB (r := rLenS K) (id := "len") clen (by rfl) T.b_len (by decide +kernel) (pa_cons (pv 2) pa_nil)) pe_int (nomark _)) (pw_or1 (pt_not (pt_val (pcall g_is_stay (hr.mono (by decide)) (by rfl) (pa_cons (pe_tup (pa_cons (pe_ix (r := rIxT K) ix_tup (pv 2) pe_int (fun _ _ => rfl)) (pa_cons (pe_ix (r := rIxT K) ix_tup (pv 2) pe_int (fun _ _ => rfl)) pa_nil))) pa_nil)))))))) (pss_one (ps_ret pe_bl)) pss_nil)
        (pss_cons (ps_asg (pv 2) (pg_tup rfl (pgs_cons (pg_name (i := 3) g_nd rfl (by first | exact Or.inl rfl | exact Or.inr rfl)) (pgs_cons (pg_name (i := 4) g_nd rfl (by first | exact Or.inl rfl | exact Or.inr rfl)) (pgs_cons (pg_name (i := 5) g_nd rfl (by first | exact Or.inl rfl | exact Or.inr rfl)) pgs_nil)))))
        (pss_cons (ps_if (PW.pt (pw_or (pt_cmpR op_lt (pv 3) (pe_ix (r := rIxT K) ix_tup (pv 1) pe_int (fun _ _ => rfl)) (nomark _)) (pw_or (pt_cmpR op_gt (pv 4) (pe_ix (r := rIxT K) ix_tup (pv 1) pe_int (fun _ _ => rfl)) (nomark _)) (pw_or (pt_not (pt_val (pcall g_is_whole (hr.mono (by decide)) (by rfl) (pa_cons (pv 5) pa_nil)))) (pw_or1 (pt_not (pt_chain op_le op_lt pe_int (pv 5) (pe_callB (r := rLenS K) (id := "len") clen (by rfl) T.b_len (by decide +kernel) (pa_cons (pv 0) pa_nil))))))))) (pss_one (ps_ret pe_bl)) pss_nil)
        (pss_one (ps_ret (pcall g_can_be_had (hr.mono (by decide)) (by rfl) (pa_cons (pe_ix (r := rIxL K) ix_list (pv 0) (pv 5) (fun _ _ => rfl)) (pa_cons (pe_tup (pa_cons (pv 3) (pa_cons (pv 4) pa_nil))) pa_nil)))))))), ?_⟩
  have hj : j < bs.length := by rw [hbk.length]; exact (List.getElem?_eq_some_iff.mp hrs).1
  obtain ⟨ba, hba, hb⟩ := hbk.get' hrs
  have hbe := ho.in_ hxb hbe0 hey
  have hcan : canB rs b e = true := by
    unfold costO at hco
    cases z : canB rs b e with
    | true => rfl
    | false => rw [z] at hco; cases hco
  refine ⟨_, rfl, _, _, _, _, _, rfl, .ty _, .base (.tup hq), kit_ty (r := true) (by decide +kernel), _, rfl, iteF ?_⟩
  refine ⟨_, rfl, q, _, rfl, .inr (SqT.of hq), rfl, _, rfl, iteFn rfl ?_⟩
  refine ⟨_, rfl, q, _, _, _, rfl, rfl, SqT.of hq, rfl, _, rfl, q, _, _, _, rfl, rfl, SqT.of hq, rfl, by show 2 ≤ sizeLine; decide, fun t1 ht1 => ?_⟩
  have s1 : Same H (upd H t1 (.tup [.int b, .int e])) := snewR ht1
  refine ⟨_, rfl, t1, b, e, rfl, upd_same, hbe.lo, hbe.lt, hbe.le, hbe.hi, _, rfl, iteF ?_⟩
  refine ⟨_, rfl, q, _, rfl, SqT.of (s1 _ _ hq), rfl, _, _, rfl, _, _, rfl, _, _, rfl, rfl, ?_⟩
  refine ⟨_, rfl, _, rfl, p, _, _, _, rfl, rfl, SqT.of (s1 _ _ hp), rfl, _, _, rfl, rfl, _, rfl, iteFd (by omega) ?_⟩
  refine ⟨_, rfl, _, rfl, p, _, _, _, rfl, rfl, SqT.of (s1 _ _ hp), rfl, _, _, rfl, rfl, _, rfl, iteFd (by omega) ?_⟩
  refine ⟨_, rfl, _, rfl, _, rfl, _, rfl, iteF ?_⟩
  refine ⟨_, rfl, _, _, rfl, rfl, _, rfl, iteTd (show (0 : Int) ≤ (j : Int) by omega) ?_⟩
  refine ⟨_, rfl, l, _, rfl, .inl (SqL.of (s1 _ _ hl)), _, _, rfl, rfl, _, rfl, iteFn (by rw [List.length_map]; omega) ?_⟩
  refine ⟨_, rfl, _, rfl, l, _, _, .ref ba, rfl, rfl, SqL.of (s1 _ _ hl), atI_nat (by rw [List.getElem?_map, hba]; rfl), _, rfl, _, rfl, by show 2 ≤ sizeLine; decide, fun t2 ht2 => ?_⟩
  have s2 : Same H (upd (upd H t1 (.tup [.int b, .int e])) t2 (.tup [.int b, .int e])) := s1.trans (snewR ht2)
  refine ⟨_, _, rfl, ba, t2, rs, b, e, rfl, rfl, upd_same, hb.mono s2, hbe, fun H' s3 => ?_⟩
  rw [hcan]
  exact k H' (s2.trans s3)

theorem sc_is_cut : FnScope ["books", "stay", "thing", "day", "part"] ["books", "stay", "thing"] (defScope sIsCut) := ⟨rfl, rfl, rfl, by decide +kernel, rfl, by decide +kernel, by decide +kernel⟩

def sp_is_cut (K : PySem.W.Frag) : Sp := sp3 fun a s t H Q => ∃ l p q x y vs cut tot rss, a = .ref l ∧ s = .ref p ∧ t = .ref q ∧ BksAt K H l rss ∧ H p = some (.tup [.int x, .int y]) ∧ StOk x y ∧ H q = some (.lst vs) ∧ All2 (CuAt H) vs cut ∧ Chain rss x y cut tot ∧ ∀ H', Same H H' → Q (.bl true) H'
theorem has_is_cut (T : Tx K mg) : Has P w K mg base "is_cut" 6 ["books", "stay", "thing"] (sp_is_cut K) := by
  have g_is_part := has_is_part (P := P) (w := w) (base := base) T
  have g_nd := sc_is_cut.nd
  refine T.d_is_cut.has sc_is_cut (fun _ _ _ _ _ _ us hl => match us, hl with | [_, _, _], _ => rfl) sp3_len (fun cdv A outer s H vs Q E hr h => ?_)
  obtain ⟨a0, a1, a2, rfl, h⟩ := h
  obtain ⟨l, p, q, x, y, vs, cut, tot, rss, rfl, rfl, rfl, hbk, hp, ho, hq, hcu, hch, k⟩ := h
  refine ⟨_, (pss_cons (ps_if (pt_not (pt_val (pe_callB call_isi (by rfl) T.b_isinstance (by decide +kernel) (pa_cons (pv 2) (pa_cons (pe_bltn (v := .ty "list") (by rfl) T.b_list (by decide +kernel) rfl) pa_nil))))) (pss_one (ps_ret pe_bl)) pss_nil)
        (pss_cons (ps_set (i := 3) g_nd rfl (by first | exact Or.inl rfl | exact Or.inr rfl) (pe_ix (r := rIxT K) ix_tup (pv 1) pe_int (fun _ _ => rfl)))
        (pss_cons (ps_for PassesOwn.never rfl (pi_list (pv 2)) (pg_name (i := 4) g_nd rfl (by first | exact Or.inl rfl | exact Or.inr rfl)) (pss_cons (ps_if (PW.pt (pw_or (pt_not (pt_val (pcall g_is_part (hr.mono (by decide)) (by rfl) (pa_cons (pv 0) (pa_cons (pv 1) (pa_cons (pv 4) pa_nil)))))) (pw_or1 (pt_cmpR op_ne (pe_ix (r := rIxT K) ix_tup (pv 4) pe_int (fun _ _ => rfl)) (pv 3) (nomark _))))) (pss_one (ps_ret pe_bl)) pss_nil)
        (pss_one (ps_set (i := 3) g_nd rfl (by first | exact Or.inl rfl | exact Or.inr rfl) (pe_ix (r := rIxT K) ix_tup (pv 4) pe_int (fun _ _ => rfl))))))
        (pss_one (ps_ret (pe_cmpR op_eq (pv 3) (pe_ix (r := rIxT K) ix_tup (pv 1) pe_int (fun _ _ => rfl)) (nomark _))))))), ?_⟩
  refine ⟨_, rfl, _, _, _, _, _, rfl, .ty _, .base (.lst hq), kit_ty (r := true) (by decide +kernel), _, rfl, iteF ?_⟩
  refine ⟨_, rfl, p, _, _, _, rfl, rfl, SqT.of hp, rfl, ?_⟩
  refine ⟨_, rfl, q, rfl, ⟨_, SqL.of hq⟩, for_list (K := K) (a := q) (xs := vs) (fun i σ Hc => ∃ d t' v4, σ = [some (.ref l), some (.ref p), some (.ref q), some (.int d), v4] ∧ Same H Hc ∧ x ≤ d ∧ Chain rss d y (cut.drop i) t')
    ⟨x, tot, none, rfl, Same.refl H, Int.le_refl _, hch⟩ (fun i σ Hc _ ⟨_, _, _, _, s, _⟩ => SqL.of (s _ _ hq)) ?_ ?_⟩
  · rintro i z σ Hc hz ⟨d, t', v4, rfl, s1, hxd, hc⟩
    obtain ⟨⟨b, e, j⟩, hci, qp, rfl, hqp⟩ := hcu.get hz
    have hdr : cut.drop i = (b, e, j) :: cut.drop (i + 1) := by
      have hi := (List.getElem?_eq_some_iff.mp hci)
      rw [List.drop_eq_getElem_cons hi.1, hi.2]
    rw [hdr] at hc
    generalize hrest : cut.drop (i + 1) = rest at hc
    cases hc with
    | @cons _ m _ _ c t2 _ h1 h2 h3 =>
      refine ⟨_, rfl, _, rfl, _, rfl, _, _, _, rfl, l, p, qp, x, y, d, e, j, rss, c, rfl, rfl, rfl, hbk.mono s1, s1 _ _ hp, ho, s1 _ _ hqp, hxd, h1, h3.le, h2, fun H2 s2 => ⟨_, rfl, iteF ?_⟩⟩
      refine ⟨_, rfl, qp, _, _, _, rfl, rfl, SqT.of (s2 _ _ (s1 _ _ hqp)), rfl, _, rfl, rfl, _, rfl, iteFn rfl ?_⟩
      refine ⟨_, rfl, qp, _, _, _, rfl, rfl, SqT.of (s2 _ _ (s1 _ _ hqp)), rfl, ?_⟩
      exact ⟨e, t2, _, rfl, s1.trans s2, by omega, h3⟩
  · rintro σ Hc ⟨d, t', v4, rfl, s1, hxd, hc⟩
    rw [hcu.length, List.drop_length] at hc
    cases hc
    refine ⟨_, rfl, _, rfl, p, _, _, _, rfl, rfl, SqT.of (s1 _ _ hp), rfl, rfl, ?_⟩
    exact qT (Q := Q) rfl (k Hc s1)

/-- what priced_parts has found -/
def PpOk (rss : List (List Rl)) (x y : Int) (L : List (Int × Int × Int)) : Prop := ∀ b e c, (b, e, c) ∈ L → x ≤ b ∧ b < e ∧ e ≤ y ∧ ∃ j, Pc rss j b e c

theorem sc_priced_parts : FnScope ["books", "stay", "found", "begin", "book", "end", "coins"] ["books", "stay"] (defScope sPricedParts) := ⟨rfl, rfl, rfl, by decide +kernel, rfl, by decide +kernel, by decide +kernel⟩

def sp_priced_parts (K : PySem.W.Frag) : Sp := sp2 fun a s H Q => ∃ l p x y rss, a = .ref l ∧ s = .ref p ∧ BksAt K H l rss ∧ rss.length ≤ 4 ∧ H p = some (.tup [.int x, .int y]) ∧ StOk x y ∧ ∀ q vs L H', Same H H' → H q = none → H' q = some (.lst vs) → All2 (PpAt H') vs L → PpOk rss x y L → vs.length ≤ 784 → Q (.ref q) H'
theorem has_priced_parts (T : Tx K mg) : Has P w K mg base "priced_parts" 5 ["books", "stay"] (sp_priced_parts K) := by
  have g_coins_of := has_coins_of (P := P) (w := w) (base := base) T
  have g_nd := sc_priced_parts.nd
  refine T.d_priced_parts.has sc_priced_parts (fun _ _ _ _ _ _ us hl => match us, hl with | [_, _], _ => rfl) sp2_len (fun cdv A outer s H vs Q E hr h => ?_)
  obtain ⟨a0, a1, rfl, h⟩ := h
  obtain ⟨l, p, x, y, rss, rfl, rfl, ⟨bs, hl, hbk⟩, h4, hp, ho, k⟩ := h
  refine ⟨_, (pss_cons (ps_set (i := 2) g_nd rfl (by first | exact Or.inl rfl | exact Or.inr rfl) (pe_lst pa_nil))
        (pss_cons (ps_for PassesOwn.never rfl (pi_range2 (by rfl) T.b_range (pa_cons (pe_ix (r := rIxT K) ix_tup (pv 1) pe_int (fun _ _ => rfl)) (pa_cons (pe_ix (r := rIxT K) ix_tup (pv 1) pe_int (fun _ _ => rfl)) pa_nil))) (pg_name (i := 3) g_nd rfl (by first | exact Or.inl rfl | exact Or.inr rfl)) (pss_one (ps_for PassesOwn.never rfl (pi_list (pv 0)) (pg_name (i := 4) g_nd rfl (by first | exact Or.inl rfl | exact Or.inr rfl)) (pss_one (ps_for PassesOwn.never rfl (pi_range2 (by rfl) T.b_range (pa_cons (pe_op op_add (pv 3) pe_int) (pa_cons (pe_op op_add (pe_ix (r := rIxT K) ix_tup (pv 1) pe_int (fun _ _ => rfl)) pe_int) pa_nil))) (pg_name (i := 5) g_nd rfl (by first | exact Or.inl rfl | exact Or.inr rfl)) (pss_cons (ps_set (i := 6) g_nd rfl (by first | exact Or.inl rfl | exact Or.inr rfl) (pcall g_coins_of (hr.mono (by decide)) (by rfl) (pa_cons (pv 4) (pa_cons (pe_tup (pa_cons (pv 3) (pa_cons (pv 5) pa_nil))) pa_nil))))
        (pss_one (ps_if (pt_cmpR op_notN (pv 6) pe_non (nomark _)) (pss_one (ps_expr (pe_bm PySem.F.plainAttrs_list PySem.F.slot_list_append PySem.F.type_list_append mt_append (pv 2) (pa_cons (pe_tup (pa_cons (pv 3) (pa_cons (pv 5) (pa_cons (pv 6) pa_nil)))) pa_nil)))) pss_nil))))))))
        (pss_one (ps_ret (pv 2))))), ?_⟩
  refine ⟨Nat.zero_le _, fun F hF => ?_⟩
  have hlo := ho.lo
  have hle := ho.le
  have hlt := ho.lt
  have hhi := ho.hi
  have s0 : Same H (upd H F (.lst [])) := snewR hF
  have big : ∀ n : Nat, n ≤ 784 → n < sizeLine := fun n h => by rw [sizeLine_eq]; omega
  refine ⟨_, rfl, p, _, _, _, rfl, rfl, SqT.of (s0 _ _ hp), rfl, _, rfl, p, _, _, _, rfl, rfl, SqT.of (s0 _ _ hp), rfl, x, y, rfl, ⟨by omega, by omega, by omega, by omega⟩, ?_⟩
  refine for_range (lo := x) (n := (y - x).toNat) (fun i σ Hc => (∃ v3 v4 v5 v6, σ = [some (.ref l), some (.ref p), some (.ref F), v3, v4, v5, v6]) ∧ Same H Hc ∧ ∃ vs L, Hc F = some (.lst vs) ∧ All2 (PpAt Hc) vs L ∧ PpOk rss x y L ∧ vs.length ≤ 56 * i)
    ⟨⟨none, none, none, none, rfl⟩, s0, [], [], upd_same, .nil, fun _ _ _ h => (by cases h), Nat.le_refl _⟩ ?_ ?_
  · rintro i σ Hc hi ⟨⟨v3, v4, v5, v6, rfl⟩, s1, vs, L, hFc, hpt, hok, hlen⟩
    refine ⟨_, rfl, l, rfl, ⟨_, SqL.of (s1 _ _ hl)⟩, for_list (K := K) (a := l) (xs := bs.map V.ref) (fun m σ Hx => (∃ v4 v5 v6, σ = [some (.ref l), some (.ref p), some (.ref F), some (.int (x + (i : Nat))), v4, v5, v6]) ∧ Same H Hx ∧ ∃ vs L, Hx F = some (.lst vs) ∧ All2 (PpAt Hx) vs L ∧ PpOk rss x y L ∧ vs.length ≤ 56 * i + 14 * m)
      ⟨⟨_, _, _, rfl⟩, s1, vs, L, hFc, hpt, hok, hlen⟩ (fun m σ Hx _ ⟨_, s, _⟩ => SqL.of (s _ _ hl)) ?_ ?_⟩
    · rintro m z σ Hx hz ⟨⟨v4, v5, v6, rfl⟩, s2, vs, L, hFx, hpt, hok, hlen⟩
      obtain ⟨b, hbi, rfl⟩ : ∃ b, bs[m]? = some b ∧ z = V.ref b := by
        rw [List.getElem?_map] at hz
        cases e : bs[m]? with
        | none => rw [e] at hz; cases hz
        | some y => rw [e] at hz; exact ⟨y, rfl, (Option.some.inj hz).symm⟩
      obtain ⟨rs, hrs, hb⟩ := hbk.get hbi
      have hm4 : m < 4 := Nat.lt_of_lt_of_le (List.getElem?_eq_some_iff.mp hrs).1 h4
      refine ⟨_, rfl, _, _, rfl, rfl, _, rfl, p, _, _, _, rfl, rfl, SqT.of (s2 _ _ hp), rfl, _, _, rfl, rfl, x + (i : Nat) + 1, y + 1, rfl, ⟨by omega, by omega, by omega, by omega⟩, ?_⟩
      refine for_range (lo := x + (i : Nat) + 1) (n := (y + 1 - (x + (i : Nat) + 1)).toNat) (fun k σ Hx => (∃ v5 v6, σ = [some (.ref l), some (.ref p), some (.ref F), some (.int (x + (i : Nat))), some (.ref b), v5, v6]) ∧ Same H Hx ∧ ∃ vs L, Hx F = some (.lst vs) ∧ All2 (PpAt Hx) vs L ∧ PpOk rss x y L ∧ vs.length ≤ 56 * i + 14 * m + k)
        ⟨⟨_, _, rfl⟩, s2, vs, L, hFx, hpt, hok, hlen⟩ ?_ ?_
      · rintro k σ Hx hk ⟨⟨v5, v6, rfl⟩, s2, vs, L, hFx, hpt, hok, hlen⟩
        refine ⟨_, rfl, _, rfl, _, rfl, by show 2 ≤ sizeLine; decide, fun q1 hq1 => ?_⟩
        have s3 : Same H (upd Hx q1 (.tup [.int (x + (i : Nat)), .int (x + (i : Nat) + 1 + (k : Nat))])) := s2.trans (snewR hq1)
        refine ⟨_, _, rfl, b, q1, rs, x + (i : Nat), x + (i : Nat) + 1 + (k : Nat), rfl, rfl, upd_same, hb.mono s3, ⟨by omega, by omega, by omega, by omega⟩, fun H4 s4 => ?_⟩
        have s5 : Same H H4 := s3.trans s4
        have s25 : Same Hx H4 := (snewR hq1).trans s4
        have hF4 := s25 _ _ hFx
        cases hc : costO rs (x + (i : Nat)) (x + (i : Nat) + 1 + (k : Nat)) with
        | none =>
          refine ⟨_, rfl, rfl, _, rfl, iteFn rfl ?_⟩
          exact ⟨⟨_, _, rfl⟩, s5, vs, L, hF4, hpt.mono fun _ _ => PpAt.kt (KT.of s25), hok, by omega⟩
        | some c =>
          refine ⟨_, rfl, rfl, _, rfl, iteTn (by simp [optV]) ?_⟩
          refine ⟨_, rfl, .inl ⟨rfl, _, SqL.of hF4⟩, _, rfl, _, rfl, _, rfl, by show 3 ≤ sizeLine; decide, fun q2 hq2 => ?_⟩
          have n2F : F ≠ q2 := ne_of_none hF4 hq2
          have hF6 : (upd H4 q2 (.tup [.int (x + (i : Nat)), .int (x + (i : Nat) + 1 + (k : Nat)), .int c])) F = some (.lst vs) := by rw [upd_ne n2F]; exact hF4
          refine ⟨F, vs, _, rfl, rfl, hF6, big _ (by omega), ?_⟩
          have kt : KT Hx (upd (upd H4 q2 (.tup [.int (x + (i : Nat)), .int (x + (i : Nat) + 1 + (k : Nat)), .int c])) F (.lst (vs ++ [.ref q2]))) := ((KT.of s25).trans (KT.of (snewR hq2))).trans (KT.lst hF6)
          refine ⟨⟨_, _, rfl⟩, snew (s5.trans (snewR hq2)) hF, vs ++ [.ref q2], L ++ [(x + (i : Nat), x + (i : Nat) + 1 + (k : Nat), c)], upd_same, (hpt.mono fun _ _ => PpAt.kt kt).snoc ⟨q2, rfl, by rw [upd_ne n2F.symm, upd_same]⟩, ?_, by rw [List.length_append]; exact Nat.succ_le_succ hlen⟩
          intro b' e' c' hm
          rcases List.mem_append.mp hm with hm | hm
          · exact hok b' e' c' hm
          · cases List.mem_singleton.mp hm
            exact ⟨by omega, by omega, by omega, m, rs, hrs, hc⟩
      · rintro σ Hx ⟨⟨v5, v6, rfl⟩, s2, vs, L, hFx, hpt, hok, hlen⟩
        exact ⟨⟨_, _, _, rfl⟩, s2, vs, L, hFx, hpt, hok, by omega⟩
    · rintro σ Hx ⟨⟨v4, v5, v6, rfl⟩, s2, vs, L, hFx, hpt, hok, hlen⟩
      have hb4 : (bs.map V.ref).length ≤ 4 := by rw [List.length_map, hbk.length]; exact h4
      exact ⟨⟨_, _, _, _, rfl⟩, s2, vs, L, hFx, hpt, hok, by omega⟩
  · rintro σ Hc ⟨⟨v3, v4, v5, v6, rfl⟩, s1, vs, L, hFc, hpt, hok, hlen⟩
    exact ⟨_, rfl, k F vs L Hc s1 hF hFc hpt hok (by omega)⟩

theorem sc_cost_of : FnScope ["books", "part"] ["books", "part"] (defScope sCostOf) := ⟨rfl, rfl, rfl, by decide +kernel, rfl, by decide +kernel, by decide +kernel⟩

def sp_cost_of (K : PySem.W.Frag) : Sp := sp2 fun a t H Q => ∃ l q b e j c rss, a = .ref l ∧ t = .ref q ∧ BksAt K H l rss ∧ H q = some (.tup [.int b, .int e, .int ((j : Nat) : Int)]) ∧ StOk b e ∧ Pc rss j b e c ∧ ∀ H', Same H H' → Q (.int c) H'
theorem has_cost_of (T : Tx K mg) : Has P w K mg base "cost_of" 6 ["books", "part"] (sp_cost_of K) := by
  have g_cost := has_cost (P := P) (w := w) (base := base) T
  have g_nd := sc_cost_of.nd
  refine T.d_cost_of.has sc_cost_of (fun _ _ _ _ _ _ us hl => match us, hl with | [_, _], _ => rfl) sp2_len (fun cdv A outer s H vs Q E hr h => ?_)
  obtain ⟨a0, a1, rfl, h⟩ := h
  obtain ⟨l, q, b, e, j, c, rss, rfl, rfl, ⟨bs, hl, hbk⟩, hq, ho, ⟨rs, hrs, hco⟩, k⟩ := h
  refine ⟨_, (pss_one (ps_ret (pcall g_cost (hr.mono (by decide)) (by rfl) (pa_cons (pe_ix (r := rIxL K) ix_list (pv 0) (pe_ix (r := rIxT K) ix_tup (pv 1) pe_int (fun _ _ => rfl)) (fun _ _ => rfl)) (pa_cons (pe_tup (pa_cons (pe_ix (r := rIxT K) ix_tup (pv 1) pe_int (fun _ _ => rfl)) (pa_cons (pe_ix (r := rIxT K) ix_tup (pv 1) pe_int (fun _ _ => rfl)) pa_nil))) pa_nil))))), ?_⟩
  obtain ⟨ba, hba, hb⟩ := hbk.get' hrs
  refine ⟨_, rfl, _, rfl, q, _, _, _, rfl, rfl, SqT.of hq, rfl, l, _, _, .ref ba, rfl, rfl, SqL.of hl, atI_nat (by rw [List.getElem?_map, hba]; rfl), ?_⟩
  refine ⟨_, rfl, q, _, _, _, rfl, rfl, SqT.of hq, rfl, _, rfl, q, _, _, _, rfl, rfl, SqT.of hq, rfl, by show 2 ≤ sizeLine; decide, fun t1 ht1 => ?_⟩
  have s1 : Same H (upd H t1 (.tup [.int b, .int e])) := snewR ht1
  exact ⟨_, _, rfl, ba, t1, rs, b, e, c, rfl, rfl, upd_same, hb.mono s1, ho, hco, fun H' s2 => k H' (s1.trans s2)⟩

end
end Stp
namespace Stp
open PySem PySem.Spec PyProof.Rows L2
section
variable {P : Program} {w : World} {K : PySem.W.Frag} {mg : Str → Option Value} {base : Heap}

theorem cut_mid (paper : List Int) {x y b e : Int} (hl : paper.length = (y - x).toNat) (h1 : x ≤ b) (h2 : b < e) (h3 : e ≤ y) : cutV (paper.map V.int) (some (b - x)) (some (e - x)) = ((paper.drop (b - x).toNat).take (e - b).toNat).map V.int := by
  unfold cutV
  have e1 : (b - x : Int) = (((b - x).toNat : Nat) : Int) := by omega
  have e2 : (e - x : Int) = (((e - x).toNat : Nat) : Int) := by omega
  rw [List.length_map]
  have a1 : HT.sIx paper.length 0 (some (b - x)) = (b - x).toNat := by
    rw [e1, HT.sIx_nat, Int.toNat_natCast]
    omega
  have a2 : HT.sIx paper.length paper.length (some (e - x)) = (e - x).toNat := by
    rw [e2, HT.sIx_nat, Int.toNat_natCast]
    omega
  rw [a1, a2, List.map_take, List.map_drop]
  congr 1
  omega
theorem Chain.len {rss : List (List Rl)} : ∀ {x y : Int} {cut : List (Int × Int × Nat)} {t : Int}, Chain rss x y cut t → (cut.length : Int) ≤ y - x
  | _, _, _, _, .nil b => by simp
  | _, _, _, _, .cons h _ r => by
    have := r.len
    rw [List.length_cons]
    omega
theorem inV_int (d : Int) (l : List Int) : inV (.int d) (l.map V.int) = decide (d ∈ l) := by
  unfold inV
  rw [List.any_map, Bool.eq_iff_iff, List.any_eq_true, decide_eq_true_eq]
  constructor
  · rintro ⟨z, hz, e⟩
    have e : (z == d) = true := e
    rw [← eq_of_beq e]
    exact hz
  · intro h
    exact ⟨d, h, by show (d == d) = true; exact beq_self_eq_true d⟩
theorem flat_ints (l : List Int) : (l.map V.int).all flatV = true := by
  rw [List.all_map]
  exact List.all_eq_true.mpr fun _ _ => rfl
/-- rising rows with the same members are one -/
theorem rise_ext : ∀ {l m : List Int}, l.Pairwise (· < ·) → m.Pairwise (· < ·) → (∀ z, z ∈ l ↔ z ∈ m) → l = m
  | [], [], _, _, _ => rfl
  | [], b :: m, _, _, h => by
    have := (h b).mpr List.mem_cons_self
    cases this
  | a :: l, [], _, _, h => by
    have := (h a).mp List.mem_cons_self
    cases this
  | a :: l, b :: m, h1, h2, h => by
    obtain ⟨a1, a2⟩ := List.pairwise_cons.mp h1
    obtain ⟨b1, b2⟩ := List.pairwise_cons.mp h2
    have e : a = b := by
      rcases List.mem_cons.mp ((h a).mp List.mem_cons_self) with e | q1
      · exact e
      · rcases List.mem_cons.mp ((h b).mpr List.mem_cons_self) with e | q2
        · exact e.symm
        · have := a1 b q2
          have := b1 a q1
          omega
    subst e
    rw [rise_ext a2 b2 fun z => ⟨fun hz => ?_, fun hz => ?_⟩]
    · rcases List.mem_cons.mp ((h z).mp (List.mem_cons_of_mem _ hz)) with e | q
      · have := a1 z hz
        omega
      · exact q
    · rcases List.mem_cons.mp ((h z).mpr (List.mem_cons_of_mem _ hz)) with e | q
      · have := b1 z hz
        omega
      · exact q
theorem rg_rise (x y : Int) : (rg x y).Pairwise (· < ·) := by
  unfold rg
  exact List.Pairwise.map _ (fun a b (h : a < b) => by omega) List.pairwise_lt_range
theorem days_eq {x y : Int} {days : List Int} (h1 : days.Pairwise (· < ·)) (h2 : ∀ d ∈ days, x ≤ d ∧ d < y) : (rg x y).filter (fun d => decide (d ∈ days)) = days :=
  rise_ext ((rg_rise x y).filter _) h1 fun z => by
    rw [List.mem_filter, mem_rg, decide_eq_true_eq]
    exact ⟨fun h => h.2, fun h => ⟨h2 z h, h⟩⟩
theorem dp_ints {K : PySem.W.Frag} {H : Hp} : ∀ l : List Int, DpAll K H (l.map V.int) (l.map PyData.int)
  | [] => .nil
  | a :: r => .cons (.int a) (dp_ints r)
theorem lay_ints : ∀ l : List Int, PyData.canLayAll0 (l.map PyData.int) = true
  | [] => by simp [PyData.canLayAll0]
  | a :: r => by
    rw [List.map_cons]
    simp [PyData.canLayAll0, PyData.canLay0, lay_ints r]
theorem depth_ints : ∀ l : List Int, PyData.depthAll (l.map PyData.int) ≤ 60
  | [] => by simp [PyData.depthAll]
  | a :: r => by
    rw [List.map_cons]
    have := depth_ints r
    simp only [PyData.depthAll, PyData.depth]
    omega
theorem shaped_ints (l : List Int) : SeqAt.shaped (.list (l.map PyData.int)) = true := by
  unfold SeqAt.shaped
  rw [Bool.and_eq_true, decide_eq_true_eq]
  refine ⟨?_, ?_⟩
  · simp only [PyData.canLay0]
    exact lay_ints l
  · have := depth_ints l
    simp only [PyData.depth]
    omega

theorem sc_is_paper : FnScope ["books", "stay", "coins", "thing", "begin", "end", "price", "number"] ["books", "stay", "coins", "thing"] (defScope sIsPaper) := ⟨rfl, rfl, rfl, by decide +kernel, rfl, by decide +kernel, by decide +kernel⟩

def sp_is_paper (K : PySem.W.Frag) : Sp := sp4 fun a s cv t H Q => ∃ l p q x y coins paper rss, a = .ref l ∧ s = .ref p ∧ cv = .int coins ∧ t = .ref q ∧ BksAt K H l rss ∧ rss.length ≤ 4 ∧ H p = some (.tup [.int x, .int y]) ∧ StOk x y ∧ H q = some (.lst (paper.map V.int)) ∧ paper.length = (y - x).toNat ∧ paper.sum = coins ∧ (∀ j b e c, x ≤ b → b < e → e ≤ y → Pc rss j b e c → psum x paper b e ≤ c) ∧ ∀ H', Same H H' → Q (.bl true) H'
theorem has_is_paper (T : Tx K mg) : Has P w K mg base "is_paper" 6 ["books", "stay", "coins", "thing"] (sp_is_paper K) := by
  have g_is_whole := has_is_whole (P := P) (w := w) (base := base) T
  have g_priced_parts := has_priced_parts (P := P) (w := w) (base := base) T
  have g_nd := sc_is_paper.nd
  refine T.d_is_paper.has sc_is_paper (fun _ _ _ _ _ _ us hl => match us, hl with | [_, _, _, _], _ => rfl) sp4_len (fun cdv A outer s H vs Q E hr h => ?_)
  obtain ⟨a0, a1, a2, a3, rfl, h⟩ := h
  obtain ⟨l, p, q, x, y, coins, paper, rss, rfl, rfl, rfl, rfl, hbk, h4, hp, ho, hq, hpl, rfl, hmain, k⟩ := h
  refine ⟨_, (pss_cons (ps_if (PW.pt (pw_or (pt_not (pt_val (pe_callB call_isi (by rfl) T.b_isinstance (by decide +kernel) (pa_cons (pv 3) (pa_cons (pe_bltn (v := .ty "list") (by rfl) T.b_list (by decide +kernel) rfl) pa_nil))))) (pw_or1 (pt_not (pt_val (pe_callB (cr_all rfl) (by rfl) T.b_all (by decide +kernel) (pa_cons (pe_lc (own := [("number", 7)]) (tt := tYes) (g := gName 7) rfl g_nd (pi_list (pv 3)) (blkOk_by (own := [("number", 7)]) (N := ["books", "stay", "coins", "thing", "begin", "end", "price", "number"]) (sc := defScope sIsPaper) (by decide +kernel)) (fun _ _ _ _ _ => (pg_name (i := 7) g_nd rfl (by first | exact Or.inl rfl | exact Or.inr rfl))) (fun _ _ _ _ _ => pts_nil) (fun _ _ _ _ _ => (pcall g_is_whole (hr.mono (by decide)) (by rfl) (pa_cons (pv 7) pa_nil)))) pa_nil))))))) (pss_one (ps_ret pe_bl)) pss_nil)
        (pss_cons (ps_if (PW.pt (pw_or (pt_cmpR op_ne (pe_callB (r := rLenS K) (id := "len") clen (by rfl) T.b_len (by decide +kernel) (pa_cons (pv 3) pa_nil)) (pe_op op_sub (pe_ix (r := rIxT K) ix_tup (pv 1) pe_int (fun _ _ => rfl)) (pe_ix (r := rIxT K) ix_tup (pv 1) pe_int (fun _ _ => rfl))) (nomark _)) (pw_or1 (pt_cmpR op_ne (pe_callB (cr_sum rfl) (by rfl) T.b_sum (by decide +kernel) (pa_cons (pv 3) pa_nil)) (pv 2) (nomark _))))) (pss_one (ps_ret pe_bl)) pss_nil)
        (pss_cons (ps_for PassesOwn.never rfl (pi_list (pcall g_priced_parts (hr.mono (by decide)) (by rfl) (pa_cons (pv 0) (pa_cons (pv 1) pa_nil)))) (pg_tup rfl (pgs_cons (pg_name (i := 4) g_nd rfl (by first | exact Or.inl rfl | exact Or.inr rfl)) (pgs_cons (pg_name (i := 5) g_nd rfl (by first | exact Or.inl rfl | exact Or.inr rfl)) (pgs_cons (pg_name (i := 6) g_nd rfl (by first | exact Or.inl rfl | exact Or.inr rfl)) pgs_nil)))) (pss_one (ps_if (pt_cmpR op_lt (pv 6) (pe_callB (cr_sum rfl) (by rfl) T.b_sum (by decide +kernel) (pa_cons (pe_slice sl_list (pv 3) (po_some (pe_op op_sub (pv 4) (pe_ix (r := rIxT K) ix_tup (pv 1) pe_int (fun _ _ => rfl)))) (po_some (pe_op op_sub (pv 5) (pe_ix (r := rIxT K) ix_tup (pv 1) pe_int (fun _ _ => rfl))))) pa_nil)) (nomark _)) (pss_one (ps_ret pe_bl)) pss_nil)))
        (pss_one (ps_ret pe_bl))))), ?_⟩
  have hlt := ho.lt
  have hle := ho.le
  refine ⟨_, rfl, _, _, _, _, _, rfl, .ty _, .base (.lst hq), kit_ty (r := true) (by decide +kernel), _, rfl, iteF ?_⟩
  refine ⟨_, rfl, q, rfl, ⟨_, SqL.of hq⟩, fun D hD => ?_⟩
  refine lc_list (K := K) (a := q) (xs := paper.map V.int) (fun i Hc => Same H Hc ∧ Hc D = some (.lst (List.replicate i (.bl true))))
    ⟨snewR hD, upd_same⟩ (fun i Hc _ ⟨s, _⟩ => SqL.of (s _ _ hq)) ?_ ?_
  · rintro i z Hc hz ⟨s1, hc⟩
    rw [List.getElem?_map] at hz
    obtain ⟨n, hn, rfl⟩ : ∃ n, paper[i]? = some n ∧ z = V.int n := by
      cases e : paper[i]? with
      | none => rw [e] at hz; cases hz
      | some n => rw [e] at hz; exact ⟨n, rfl, (Option.some.inj hz).symm⟩
    have hi := (List.getElem?_eq_some_iff.mp hn).1
    exact ⟨rfl, _, rfl, _, rfl, n, rfl, _, hc, by rw [List.length_replicate]; exact small15 (by omega), snew s1 hD, by rw [upd_same, ← List.replicate_succ']⟩
  rintro H1 ⟨s1, hc⟩
  rw [List.length_map] at hc
  refine ⟨D, List.replicate paper.length true, rfl, SqL.of (by rw [hc, List.map_replicate]), ?_⟩
  have eall : (List.replicate paper.length true).all id = true := by simp
  rw [eall]
  
  refine ⟨_, rfl, iteF ?_⟩
  refine ⟨_, rfl, q, _, rfl, .inl (SqL.of (s1 _ _ hq)), _, rfl, p, _, _, _, rfl, rfl, SqT.of (s1 _ _ hp), rfl, _, rfl, p, _, _, _, rfl, rfl, SqT.of (s1 _ _ hp), rfl, _, _, rfl, rfl, rfl, _, rfl, iteFn (by rw [List.length_map, hpl]; congr 1; omega) ?_⟩
  refine ⟨_, rfl, q, paper, rfl, SqL.of (s1 _ _ hq), _, rfl, rfl, _, rfl, iteFn rfl ?_⟩
  refine ⟨_, rfl, _, rfl, _, _, rfl, l, p, x, y, rss, rfl, rfl, hbk.mono s1, h4, s1 _ _ hp, ho, fun r vs L H2 s2 hr2 hvs hpt hok hlen => ?_⟩
  refine ⟨r, rfl, ⟨_, SqL.of hvs⟩, for_list (K := K) (a := r) (xs := vs) (fun i σ Hc => (∃ v4 v5 v6 v7, σ = [some (.ref l), some (.ref p), some (.int paper.sum), some (.ref q), v4, v5, v6, v7]) ∧ Same H2 Hc)
    ⟨⟨_, _, _, _, rfl⟩, Same.refl _⟩ (fun i σ Hc _ ⟨_, s⟩ => SqL.of (s _ _ hvs)) ?_ ?_⟩
  · rintro i z σ Hc hz ⟨⟨v4, v5, v6, v7, rfl⟩, s3⟩
    obtain ⟨⟨b, e, c⟩, hL, tq, rfl, htq⟩ := hpt.get hz
    obtain ⟨k1, k2, k3, j, k4⟩ := hok b e c (List.mem_of_getElem? hL)
    have s4 : Same H Hc := (s1.trans s2).trans s3
    refine ⟨tq, _, rfl, SqT.of (s3 _ _ htq), rfl, _, _, rfl, _, _, rfl, _, _, rfl, rfl, ?_⟩
    refine ⟨_, rfl, _, rfl, _, rfl, _, rfl, p, _, _, _, rfl, rfl, SqT.of (s4 _ _ hp), rfl, _, _, rfl, rfl, _, rfl, _, rfl, _, rfl, p, _, _, _, rfl, rfl, SqT.of (s4 _ _ hp), rfl, _, _, rfl, rfl, _, rfl, q, _, rfl, SqL.of (s4 _ _ hq), fun D2 hD2 => ?_⟩
    rw [cut_mid paper hpl k1 k2 k3]
    refine ⟨D2, _, rfl, SqL.of upd_same, _, _, rfl, rfl, _, rfl, iteFd ?_ ⟨⟨_, _, _, _, rfl⟩, s3.trans (snewR hD2)⟩⟩
    have := hmain j b e c k1 k2 k3 k4
    unfold psum at this
    show ¬ c < _
    omega
  · rintro σ Hc ⟨⟨v4, v5, v6, v7, rfl⟩, s3⟩
    exact k Hc ((s1.trans s2).trans s3)

theorem sc_is_shut : FnScope ["books", "stay", "thing", "day", "begin", "end", "price"] ["books", "stay", "thing"] (defScope sIsShut) := ⟨rfl, rfl, rfl, by decide +kernel, rfl, by decide +kernel, by decide +kernel⟩

def sp_is_shut (K : PySem.W.Frag) : Sp := sp3 fun a s t H Q => ∃ l p q x y paper rss, a = .ref l ∧ s = .ref p ∧ t = .ref q ∧ BksAt K H l rss ∧ rss.length ≤ 4 ∧ H p = some (.tup [.int x, .int y]) ∧ StOk x y ∧ H q = some (.lst (paper.map V.int)) ∧ ResOk rss x y (.off paper) ∧ ∀ H', Same H H' → Q (.bl true) H'
theorem has_is_shut (T : Tx K mg) : Has P w K mg base "is_shut" 6 ["books", "stay", "thing"] (sp_is_shut K) := by
  have g_is_whole := has_is_whole (P := P) (w := w) (base := base) T
  have g_priced_parts := has_priced_parts (P := P) (w := w) (base := base) T
  have g_nd := sc_is_shut.nd
  refine T.d_is_shut.has sc_is_shut (fun _ _ _ _ _ _ us hl => match us, hl with | [_, _, _], _ => rfl) sp3_len (fun cdv A outer s H vs Q E hr h => ?_)
  obtain ⟨a0, a1, a2, rfl, h⟩ := h
  obtain ⟨l, p, q, x, y, paper, rss, rfl, rfl, rfl, hbk, h4, hp, ho, hq, ⟨hd1, hd2, hd3, hd4⟩, k⟩ := h
  refine ⟨_, (pss_cons (ps_if (PW.pt (pw_or (pt_not (pt_val (pe_callB call_isi (by rfl) T.b_isinstance (by decide +kernel) (pa_cons (pv 2) (pa_cons (pe_bltn (v := .ty "list") (by rfl) T.b_list (by decide +kernel) rfl) pa_nil))))) (pw_or1 (pt_not (pt_val (pe_callB (cr_all rfl) (by rfl) T.b_all (by decide +kernel) (pa_cons (pe_lc (own := [("day", 3)]) (tt := tYes) (g := gName 3) rfl g_nd (pi_list (pv 2)) (blkOk_by (own := [("day", 3)]) (N := ["books", "stay", "thing", "day", "begin", "end", "price"]) (sc := defScope sIsShut) (by decide +kernel)) (fun _ _ _ _ _ => (pg_name (i := 3) g_nd rfl (by first | exact Or.inl rfl | exact Or.inr rfl))) (fun _ _ _ _ _ => pts_nil) (fun _ _ _ _ _ => (pcall g_is_whole (hr.mono (by decide)) (by rfl) (pa_cons (pv 3) pa_nil)))) pa_nil))))))) (pss_one (ps_ret pe_bl)) pss_nil)
        (pss_cons (ps_if (PW.pt (pw_or (pt_cmpR (op_neD hr.units) (pv 2) (pe_lc (own := [("day", 3)]) (g := gName 3) rfl g_nd (pi_range2 (by rfl) T.b_range (pa_cons (pe_ix (r := rIxT K) ix_tup (pv 1) pe_int (fun _ _ => rfl)) (pa_cons (pe_ix (r := rIxT K) ix_tup (pv 1) pe_int (fun _ _ => rfl)) pa_nil))) (blkOk_by (own := [("day", 3)]) (N := ["books", "stay", "thing", "day", "begin", "end", "price"]) (sc := defScope sIsShut) (by decide +kernel)) (fun _ _ _ _ _ => (pg_name (i := 3) g_nd rfl (by first | exact Or.inl rfl | exact Or.inr rfl))) (fun _ _ _ _ _ => (pts_one (pt_cmpR (r := rIn K false) op_in_seq (pv 3) (pv 2) (by rfl)))) (fun _ _ _ _ _ => (pv 3))) (nomark _)) (pw_or1 (pt_cmpR (r := rIn K true) op_notIn_seq (pe_ix (r := rIxT K) ix_tup (pv 1) pe_int (fun _ _ => rfl)) (pv 2) (by rfl))))) (pss_one (ps_ret pe_bl)) pss_nil)
        (pss_one (ps_ret (pe_not (pe_callB (cr_any rfl) (by rfl) T.b_any (by decide +kernel) (pa_cons (pe_lc (own := [("begin", 4), ("end", 5), ("price", 6)]) (tt := tYes) (g := gTup K 3 (gCons (gName 4) (gCons (gName 5) (gCons (gName 6) gNil)))) rfl g_nd (pi_list (pcall g_priced_parts (hr.mono (by decide)) (by rfl) (pa_cons (pv 0) (pa_cons (pv 1) pa_nil)))) (blkOk_by (own := [("begin", 4), ("end", 5), ("price", 6)]) (N := ["books", "stay", "thing", "day", "begin", "end", "price"]) (sc := defScope sIsShut) (by decide +kernel)) (fun _ _ _ _ _ => (pg_tup rfl (pgs_cons (pg_name (i := 4) g_nd rfl (by first | exact Or.inl rfl | exact Or.inr rfl)) (pgs_cons (pg_name (i := 5) g_nd rfl (by first | exact Or.inl rfl | exact Or.inr rfl)) (pgs_cons (pg_name (i := 6) g_nd rfl (by first | exact Or.inl rfl | exact Or.inr rfl)) pgs_nil))))) (fun _ _ _ _ _ => pts_nil) (fun _ _ _ _ _ => (pe_and (pe_cmpR (r := rIn K false) op_in_seq (pv 4) (pv 2) (by rfl)) (pe_one (pe_cmpR (r := rIn K true) op_notIn_seq (pv 5) (pv 2) (by rfl)))))) pa_nil))))))), ?_⟩
  have hlo := ho.lo
  have hlt := ho.lt
  have hle := ho.le
  have hhi := ho.hi
  have hpl : paper.length < 15 := by
    have h1 := congrArg List.length (days_eq hd3 hd2)
    have h2 := List.length_filter_le (fun d => decide (d ∈ paper)) (rg x y)
    rw [rg_length] at h2
    omega
  refine ⟨_, rfl, _, _, _, _, _, rfl, .ty _, .base (.lst hq), kit_ty (r := true) (by decide +kernel), _, rfl, iteF ?_⟩
  refine ⟨_, rfl, q, rfl, ⟨_, SqL.of hq⟩, fun D hD => ?_⟩
  refine lc_list (K := K) (a := q) (xs := paper.map V.int) (fun i Hc => Same H Hc ∧ Hc D = some (.lst (List.replicate i (.bl true))))
    ⟨snewR hD, upd_same⟩ (fun i Hc _ ⟨s, _⟩ => SqL.of (s _ _ hq)) ?_ ?_
  · rintro i z Hc hz ⟨s1, hc⟩
    rw [List.getElem?_map] at hz
    obtain ⟨n, hn, rfl⟩ : ∃ n, paper[i]? = some n ∧ z = V.int n := by
      cases e : paper[i]? with
      | none => rw [e] at hz; cases hz
      | some n => rw [e] at hz; exact ⟨n, rfl, (Option.some.inj hz).symm⟩
    have hi := (List.getElem?_eq_some_iff.mp hn).1
    exact ⟨rfl, _, rfl, _, rfl, n, rfl, _, hc, by rw [List.length_replicate]; exact small15 (by omega), snew s1 hD, by rw [upd_same, ← List.replicate_succ']⟩
  rintro H1 ⟨s1, hc⟩
  rw [List.length_map] at hc
  refine ⟨D, List.replicate paper.length true, rfl, SqL.of (by rw [hc, List.map_replicate]), ?_⟩
  have eall : (List.replicate paper.length true).all id = true := by simp
  rw [eall]
  
  refine ⟨_, rfl, iteF ?_⟩
  -- thing != [..]
  refine ⟨_, rfl, _, rfl, p, _, _, _, rfl, rfl, SqT.of (s1 _ _ hp), rfl, _, rfl, p, _, _, _, rfl, rfl, SqT.of (s1 _ _ hp), rfl, x, y, rfl, ⟨by omega, by omega, by omega, by omega⟩, fun D2 hD2 => ?_⟩
  have tk : ∀ i : Nat, i < (y - x).toNat → (rg x y).take (i + 1) = (rg x y).take i ++ [x + (i : Nat)] := fun i hi => by
    rw [List.take_succ, rg_get hi]
    rfl
  refine lc_range (lo := x) (n := (y - x).toNat) (fun i Hc => Same H1 Hc ∧ Hc D2 = some (.lst ((((rg x y).take i).filter fun d => decide (d ∈ paper)).map V.int)))
    ⟨snewR hD2, upd_same⟩ ?_ ?_
  · rintro i Hc hi ⟨s2, hc2⟩
    refine ⟨rfl, ?_⟩
    refine ⟨_, rfl, _, rfl, q, _, rfl, .inl (SqL.of (s2 _ _ (s1 _ _ hq))), rfl, flat_ints paper, _, rfl, ?_⟩
    rw [if_neg Bool.false_ne_true, inV_int]
    rw [tk i hi, List.filter_append]
    by_cases hm : x + (i : Nat) ∈ paper
    · refine iteTd hm ⟨_, rfl, _, hc2, ?_, snew s2 hD2, ?_⟩
      · rw [List.length_map]
        have := List.length_filter_le (fun d => decide (d ∈ paper)) ((rg x y).take i)
        rw [List.length_take, rg_length] at this
        exact small15 (by omega)
      · rw [upd_same, List.map_append, List.filter_cons, if_pos (decide_eq_true hm)]
        rfl
    · refine iteFd hm ⟨s2, ?_⟩
      rw [List.filter_cons, if_neg (by simp [hm]), List.filter_nil, List.append_nil]
      exact hc2
  rintro H2 ⟨s2, hc2⟩
  have ert : (rg x y).take (y - x).toNat = rg x y := by rw [← rg_length x y, List.take_length]
  rw [ert, days_eq hd3 hd2] at hc2
  have s02 : Same H H2 := s1.trans s2
  refine ⟨_, _, .lst (SqL.of (s02 _ _ hq)) (dp_ints paper), .lst (SqL.of hc2) (dp_ints paper), shaped_ints paper, shaped_ints paper, _, rfl, ?_⟩
  rw [SeqAt.eqv_refl _ (SeqAt.canLay_of_shaped (shaped_ints paper))]
  refine iteF ?_
  refine ⟨_, rfl, p, _, _, _, rfl, rfl, SqT.of (s02 _ _ hp), rfl, _, rfl, q, _, rfl, .inl (SqL.of (s02 _ _ hq)), rfl, flat_ints paper, _, rfl, ?_⟩
  rw [if_pos rfl, inV_int]
  refine iteFn hd1 ?_
  -- any
  refine ⟨_, rfl, _, rfl, _, _, rfl, l, p, x, y, rss, rfl, rfl, hbk.mono s02, h4, s02 _ _ hp, ho, fun r vs L H3 s3 hr3 hvs hpt hok hlen => ?_⟩
  refine ⟨r, rfl, ⟨_, SqL.of hvs⟩, fun D3 hD3 => ?_⟩
  have s03 := s02.trans s3
  refine lc_list (K := K) (a := r) (xs := vs) (fun i Hc => Same H3 Hc ∧ Hc D3 = some (.lst (List.replicate i (.bl false))))
    ⟨snewR hD3, upd_same⟩ (fun i Hc _ ⟨s, _⟩ => SqL.of (s _ _ hvs)) ?_ ?_
  · rintro i z Hc hz ⟨s4, hc4⟩
    obtain ⟨⟨b, e, c⟩, hL, tq, rfl, htq⟩ := hpt.get hz
    obtain ⟨k1, k2, k3, j, k4⟩ := hok b e c (List.mem_of_getElem? hL)
    have hi := (List.getElem?_eq_some_iff.mp hz).1
    have fin : ∃ acc, Hc D3 = some (.lst acc) ∧ acc.length < sizeLine ∧ (Same H3 (upd Hc D3 (.lst (acc ++ [V.bl false]))) ∧ (upd Hc D3 (.lst (acc ++ [V.bl false]))) D3 = some (.lst (List.replicate (i + 1) (.bl false)))) :=
      ⟨_, hc4, by rw [List.length_replicate, sizeLine_eq]; omega, snew s4 hD3, by rw [upd_same, ← List.replicate_succ']⟩
    refine ⟨tq, _, rfl, SqT.of (s4 _ _ htq), rfl, _, _, rfl, _, _, rfl, _, _, rfl, rfl, rfl, ?_⟩
    have hq4 := s4 _ _ (s03 _ _ hq)
    refine ⟨_, rfl, _, rfl, q, _, rfl, .inl (SqL.of hq4), rfl, flat_ints paper, _, rfl, ?_⟩
    rw [if_neg Bool.false_ne_true, inV_int]
    by_cases hm : b ∈ paper
    · refine iteTd hm ?_
      have he := hd4 j b e c k1 k2 k3 k4 hm
      refine ⟨_, rfl, _, rfl, q, _, rfl, .inl (SqL.of hq4), rfl, flat_ints paper, ?_⟩
      rw [if_pos rfl, inV_int, decide_eq_true he]
      exact fin
    · exact iteFd hm fin
  rintro H4 ⟨s4, hc4⟩
  refine ⟨D3, List.replicate vs.length false, rfl, SqL.of (by rw [hc4, List.map_replicate]), _, rfl, ?_⟩
  have eany : (List.replicate vs.length false).any id = false := by simp
  rw [eany]
  exact k H4 (s03.trans s4)

end
end Stp
namespace Stp
open PySem PySem.Spec PyProof.Rows L2
section
variable {P : Program} {w : World} {K : PySem.W.Frag} {mg : Str → Option Value} {base : Heap}

theorem sc_lets_by : FnScope ["books", "stay", "thing", "part"] ["books", "stay", "thing"] (defScope sLetsBy) := ⟨rfl, rfl, rfl, by decide +kernel, rfl, by decide +kernel, by decide +kernel⟩

def sp_lets_by (K : PySem.W.Frag) : Sp := sp3 fun a s t H Q => ∃ l p q x y r rss, a = .ref l ∧ s = .ref p ∧ t = .ref q ∧ BksAt K H l rss ∧ rss.length ≤ 4 ∧ H p = some (.tup [.int x, .int y]) ∧ StOk x y ∧ ResAt H q r ∧ ResOk rss x y r ∧ ∀ H', Same H H' → Q (.bl true) H'
theorem has_lets_by (T : Tx K mg) : Has P w K mg base "lets_by" 7 ["books", "stay", "thing"] (sp_lets_by K) := by
  have g_is_whole := has_is_whole (P := P) (w := w) (base := base) T
  have g_is_cut := has_is_cut (P := P) (w := w) (base := base) T
  have g_is_shut := has_is_shut (P := P) (w := w) (base := base) T
  have g_cost_of := has_cost_of (P := P) (w := w) (base := base) T
  have g_is_paper := has_is_paper (P := P) (w := w) (base := base) T
  have g_nd := sc_lets_by.nd
  refine T.d_lets_by.has sc_lets_by (fun _ _ _ _ _ _ us hl => match us, hl with | [_, _, _], _ => rfl) sp3_len (fun cdv A outer s H vs Q E hr h => ?_)
  obtain ⟨a0, a1, a2, rfl, h⟩ := h
  obtain ⟨l, p, q, x, y, r, rss, rfl, rfl, rfl, hbk, h4, hp, ho, hra, hok, k⟩ := h
  refine ⟨_, (pss_cons (ps_if (PW.pt (pw_or (pt_not (pt_val (pe_callB call_isi (by rfl) T.b_isinstance (by decide +kernel) (pa_cons (pv 2) (pa_cons (pe_bltn (v := .ty "tuple") (by rfl) T.b_tuple (by decide +kernel) rfl) pa_nil))))) (pw_or (pt_cmpR op_eq (pe_callB (r := rLenS K) (id := "len") clen (by rfl) T.b_len (by decide +kernel) (pa_cons (pv 2) pa_nil)) pe_int (nomark _)) (pw_or1 (pt_not (pt_val (pe_callB call_isi (by rfl) T.b_isinstance (by decide +kernel) (pa_cons (pe_ix (r := rIxT K) ix_tup (pv 2) pe_int (fun _ _ => rfl)) (pa_cons (pe_bltn (v := .ty "str") (by rfl) T.b_str (by decide +kernel) rfl) pa_nil))))))))) (pss_one (ps_ret pe_bl)) pss_nil)
        (pss_cons (ps_if (pt_cmpR op_eq (pe_ix (r := rIxT K) ix_tup (pv 2) pe_int (fun _ _ => rfl)) pe_str (nomark _)) (pss_one (ps_ret (pe_and (pe_cmpR op_eq (pe_callB (r := rLenS K) (id := "len") clen (by rfl) T.b_len (by decide +kernel) (pa_cons (pv 2) pa_nil)) pe_int (nomark _)) (pe_one (pcall g_is_shut (hr.mono (by decide)) (by rfl) (pa_cons (pv 0) (pa_cons (pv 1) (pa_cons (pe_ix (r := rIxT K) ix_tup (pv 2) pe_int (fun _ _ => rfl)) pa_nil)))))))) pss_nil)
        (pss_cons (ps_if (PW.pt (pw_or (pt_cmpR op_ne (pe_ix (r := rIxT K) ix_tup (pv 2) pe_int (fun _ _ => rfl)) pe_str (nomark _)) (pw_or (pt_cmpR op_ne (pe_callB (r := rLenS K) (id := "len") clen (by rfl) T.b_len (by decide +kernel) (pa_cons (pv 2) pa_nil)) pe_int (nomark _)) (pw_or (pt_not (pt_val (pcall g_is_whole (hr.mono (by decide)) (by rfl) (pa_cons (pe_ix (r := rIxT K) ix_tup (pv 2) pe_int (fun _ _ => rfl)) pa_nil)))) (pw_or1 (pt_not (pt_val (pcall g_is_cut (hr.mono (by decide)) (by rfl) (pa_cons (pv 0) (pa_cons (pv 1) (pa_cons (pe_ix (r := rIxT K) ix_tup (pv 2) pe_int (fun _ _ => rfl)) pa_nil))))))))))) (pss_one (ps_ret pe_bl)) pss_nil)
        (pss_cons (ps_if (pt_cmpR op_ne (pe_callB (cr_sum rfl) (by rfl) T.b_sum (by decide +kernel) (pa_cons (pe_lc (own := [("part", 3)]) (tt := tYes) (g := gName 3) rfl g_nd (pi_list (pe_ix (r := rIxT K) ix_tup (pv 2) pe_int (fun _ _ => rfl))) (blkOk_by (own := [("part", 3)]) (N := ["books", "stay", "thing", "part"]) (sc := defScope sLetsBy) (by decide +kernel)) (fun _ _ _ _ _ => (pg_name (i := 3) g_nd rfl (by first | exact Or.inl rfl | exact Or.inr rfl))) (fun _ _ _ _ _ => pts_nil) (fun _ _ _ _ _ => (pcall g_cost_of (hr.mono (by decide)) (by rfl) (pa_cons (pv 0) (pa_cons (pv 3) pa_nil))))) pa_nil)) (pe_ix (r := rIxT K) ix_tup (pv 2) pe_int (fun _ _ => rfl)) (nomark _)) (pss_one (ps_ret pe_bl)) pss_nil)
        (pss_one (ps_ret (pcall g_is_paper (hr.mono (by decide)) (by rfl) (pa_cons (pv 0) (pa_cons (pv 1) (pa_cons (pe_ix (r := rIxT K) ix_tup (pv 2) pe_int (fun _ _ => rfl)) (pa_cons (pe_ix (r := rIxT K) ix_tup (pv 2) pe_int (fun _ _ => rfl)) pa_nil))))))))))), ?_⟩
  cases r with
  | off days =>
    obtain ⟨a1, hq, ha1⟩ := hra
    refine ⟨_, rfl, _, _, _, _, _, rfl, .ty _, .base (.tup hq), kit_ty (r := true) (by decide +kernel), _, rfl, iteF ?_⟩
    refine ⟨_, rfl, q, _, rfl, .inr (SqT.of hq), rfl, _, rfl, iteFd (by simp) ?_⟩
    refine ⟨_, rfl, q, _, _, _, rfl, rfl, SqT.of hq, rfl, _, _, _, _, _, rfl, .ty _, .base (.str _), kit_ty (r := true) (by decide +kernel), _, rfl, iteF ?_⟩
    refine ⟨_, rfl, q, _, _, _, rfl, rfl, SqT.of hq, rfl, rfl, _, rfl, iteTd rfl ?_⟩
    refine ⟨_, rfl, q, _, rfl, .inr (SqT.of hq), rfl, _, rfl, iteTd rfl ?_⟩
    exact ⟨_, rfl, _, rfl, _, rfl, q, _, _, _, rfl, rfl, SqT.of hq, rfl, _, _, _, rfl, l, p, a1, x, y, days, rss, rfl, rfl, rfl, hbk, h4, hp, ho, ha1, hok, k⟩
  | had coins cut paper =>
    obtain ⟨a1, a2, vs, hq, ha1, hcu, ha2⟩ := hra
    obtain ⟨hch, hpl, hsum, hmain⟩ := hok
    obtain ⟨cs, hcs, hcost⟩ := hch.costs
    have hcl := hch.len
    have hle := ho.le
    have hlt := ho.lt
    refine ⟨_, rfl, _, _, _, _, _, rfl, .ty _, .base (.tup hq), kit_ty (r := true) (by decide +kernel), _, rfl, iteF ?_⟩
    refine ⟨_, rfl, q, _, rfl, .inr (SqT.of hq), rfl, _, rfl, iteFd (by simp) ?_⟩
    refine ⟨_, rfl, q, _, _, _, rfl, rfl, SqT.of hq, rfl, _, _, _, _, _, rfl, .ty _, .base (.str _), kit_ty (r := true) (by decide +kernel), _, rfl, iteF ?_⟩
    refine ⟨_, rfl, q, _, _, _, rfl, rfl, SqT.of hq, rfl, rfl, _, rfl, iteFd (by decide +kernel) ?_⟩
    refine ⟨_, rfl, q, _, _, _, rfl, rfl, SqT.of hq, rfl, rfl, _, rfl, iteFn rfl ?_⟩
    refine ⟨_, rfl, q, _, rfl, .inr (SqT.of hq), rfl, _, rfl, iteFn rfl ?_⟩
    refine ⟨_, rfl, q, _, _, _, rfl, rfl, SqT.of hq, rfl, _, rfl, coins, rfl, _, rfl, iteF ?_⟩
    refine ⟨_, rfl, _, rfl, _, rfl, q, _, _, _, rfl, rfl, SqT.of hq, rfl, _, _, _, rfl, l, p, a1, x, y, vs, cut, coins, rss, rfl, rfl, rfl, hbk, hp, ho, ha1, hcu, hch, fun H1 s1 => ⟨_, rfl, iteF ?_⟩⟩
    -- the sum of the parts
    refine ⟨_, rfl, q, _, _, _, rfl, rfl, SqT.of (s1 _ _ hq), rfl, a1, rfl, ⟨_, SqL.of (s1 _ _ ha1)⟩, fun D hD => ?_⟩
    refine lc_list (K := K) (a := a1) (xs := vs) (fun i Hc => Same H1 Hc ∧ Hc D = some (.lst ((cs.take i).map V.int)))
      ⟨snewR hD, upd_same⟩ (fun i Hc _ ⟨s, _⟩ => SqL.of (s _ _ (s1 _ _ ha1))) ?_ ?_
    · rintro i z Hc hz ⟨s2, hc⟩
      obtain ⟨⟨b, e, j⟩, hci, qp, rfl, hqp⟩ := hcu.get hz
      obtain ⟨c, hcc, k1, k2, k3, k4⟩ := hcost.get hci
      have s02 : Same H Hc := s1.trans s2
      have hi := (List.getElem?_eq_some_iff.mp hci).1
      refine ⟨rfl, ?_⟩
      refine ⟨_, rfl, _, rfl, _, _, rfl, l, qp, b, e, j, c, rss, rfl, rfl, hbk.mono s02, s02 _ _ hqp, ho.in_ k1 k2 k3, k4, fun H3 s3 => ?_⟩
      refine ⟨_, s3 _ _ hc, by rw [List.length_map, List.length_take]; exact small15 (by omega), snew (s2.trans s3) hD, ?_⟩
      rw [upd_same, List.take_succ, hcc, List.map_append]
      rfl
    rintro H2 ⟨s2, hc⟩
    have evl : vs.length = cs.length := hcu.length.trans hcost.length
    rw [evl, List.take_length] at hc
    have s02 : Same H H2 := s1.trans s2
    refine ⟨D, cs, rfl, SqL.of hc, _, rfl, q, _, _, _, rfl, rfl, SqT.of (s02 _ _ hq), rfl, rfl, _, rfl, iteFn (by rw [hcs]) ?_⟩
    exact ⟨_, rfl, _, rfl, _, rfl, q, _, _, _, rfl, rfl, SqT.of (s02 _ _ hq), rfl, _, rfl, q, _, _, _, rfl, rfl, SqT.of (s02 _ _ hq), rfl, _, _, _, _, rfl, l, p, a2, x, y, coins, paper, rss, rfl, rfl, rfl, rfl, hbk.mono s02, h4, s02 _ _ hp, ho, s02 _ _ ha2, hpl, hsum, hmain, fun H3 s3 => k H3 (s02.trans s3)⟩

end
end Stp
namespace Stp
open PySem PySem.Spec PyProof.Rows L2
/-! ### the plain law: other coins -/
def mapW (f : Int → Int) : Wo → Wo
  | .int i => .int (f i)
  | x => x
def chgX (t m : Int) : Wd → Wo → Wo
  | .price => mapW fun i => i % 1000000000 * t + m
  | .fee => mapW fun i => i % 1000000000 * t
  | _ => id
def outD (dl : Bool) : Wd → Bool
  | .deal => !dl
  | _ => false
def chgR (t m : Int) (dl : Bool) (r : Rl) : Option Rl := if outD dl r.w = true then none else some ⟨r.w, r.a, r.b, chgX t m r.w r.x⟩
def chgs (t m : Int) (dl : Bool) (rs : List Rl) : List Rl := rs.filterMap (chgR t m dl)
theorem chgs_filter (t m : Int) (dl : Bool) (w : Wd) (hw : outD dl w = false) : ∀ rs : List Rl, (chgs t m dl rs).filter (fun r => decide (r.w = w)) = (rs.filter (fun r => decide (r.w = w))).map fun r => ⟨r.w, r.a, r.b, chgX t m r.w r.x⟩
  | [] => rfl
  | r :: rs => by
    have ih := chgs_filter t m dl w hw rs
    unfold chgs at ih ⊢
    rw [List.filterMap_cons]
    by_cases e : r.w = w
    · have h1 : chgR t m dl r = some ⟨r.w, r.a, r.b, chgX t m r.w r.x⟩ := by
        unfold chgR
        rw [e, hw]
        rfl
      rw [h1]
      show List.filter _ (_ :: List.filterMap (chgR t m dl) rs) = _
      rw [List.filter_cons, List.filter_cons, if_pos (decide_eq_true e), if_pos (decide_eq_true e), List.map_cons, ih]
    · rw [List.filter_cons (x := r), if_neg (by simp [e])]
      cases h1 : chgR t m dl r with
      | none => exact ih
      | some r' =>
        have e2 : r'.w = r.w := by
          unfold chgR at h1
          split at h1
          · cases h1
          · cases h1; rfl
        show List.filter _ (r' :: List.filterMap (chgR t m dl) rs) = _
        rw [List.filter_cons, if_neg (by simp [e2, e]), ih]
theorem chgX_usual (t m : Int) (w : Wd) : chgX t m w (usualW w) = usualW w := by
  cases w <;> simp [chgX, usualW, mapW]
theorem tel_chgs (t m : Int) (dl : Bool) (rs : List Rl) (w : Wd) (d : Int) (hw : outD dl w = false) : tel (chgs t m dl rs) w d = chgX t m w (tel rs w d) := by
  unfold tel
  rw [chgs_filter t m dl w hw, ← List.map_reverse, List.find?_map]
  have e : ((fun r : Rl => r.has d) ∘ fun r : Rl => (⟨r.w, r.a, r.b, chgX t m r.w r.x⟩ : Rl)) = fun r => r.has d := rfl
  rw [e]
  cases h : (rs.filter fun r => decide (r.w = w)).reverse.find? (fun r => r.has d) with
  | none => exact (chgX_usual t m w).symm
  | some r =>
    have m1 := List.mem_filter.mp (List.mem_reverse.mp (List.mem_of_find?_eq_some h))
    have e2 : r.w = w := of_decide_eq_true m1.2
    show chgX t m r.w r.x = chgX t m w r.x
    rw [e2]
theorem tel_nodeal (t m : Int) (rs : List Rl) (d : Int) : tel (chgs t m false rs) .deal d = .non := by
  have e : (chgs t m false rs).filter (fun r => decide (r.w = .deal)) = [] := by
    rw [List.filter_eq_nil_iff]
    intro r hr
    obtain ⟨r0, _, h⟩ := List.mem_filterMap.mp hr
    unfold chgR at h
    split at h
    · cases h
    · rename_i q
      cases h
      simp only [decide_eq_true_eq]
      intro z
      rw [z] at q
      exact q rfl
  unfold tel
  rw [e]
  rfl
section
variable (t m : Int) (dl : Bool) (rs : List Rl)
theorem out_price : outD dl .price = false := rfl
theorem priceO_chgs (d : Int) : priceO (chgs t m dl rs) d = (priceO rs d).map fun i => i % 1000000000 * t + m := by
  unfold priceO
  rw [tel_chgs t m dl rs .price d rfl]
  cases tel rs .price d <;> rfl
theorem comeB_chgs (d : Int) : comeB (chgs t m dl rs) d = comeB rs d := by
  unfold comeB
  rw [tel_chgs t m dl rs .come d rfl]
  rfl
theorem goB_chgs (d : Int) : goB (chgs t m dl rs) d = goB rs d := by
  unfold goB
  rw [tel_chgs t m dl rs .go d rfl]
  rfl
theorem leastI_chgs (d : Int) : leastI (chgs t m dl rs) d = leastI rs d := by
  unfold leastI
  rw [tel_chgs t m dl rs .least d rfl]
  rfl
theorem mostI_chgs (d : Int) : mostI (chgs t m dl rs) d = mostI rs d := by
  unfold mostI
  rw [tel_chgs t m dl rs .most d rfl]
  rfl
theorem feeI_chgs (d : Int) : feeI (chgs t m dl rs) d = feeI rs d % 1000000000 * t := by
  unfold feeI
  rw [tel_chgs t m dl rs .fee d rfl]
  cases tel rs .fee d <;> simp [chgX, mapW]
theorem dealO_yes (d : Int) : dealO (chgs t m true rs) d = dealO rs d := by
  unfold dealO
  rw [tel_chgs t m true rs .deal d rfl]
  rfl
theorem dealO_no (d : Int) : dealO (chgs t m false rs) d = none := by
  unfold dealO
  rw [tel_nodeal]
theorem canB_chgs (b e : Int) : canB (chgs t m dl rs) b e = canB rs b e := by
  unfold canB
  rw [comeB_chgs, goB_chgs, leastI_chgs, mostI_chgs]
  congr 2
  refine List.all_congr rfl fun n => ?_
  rw [priceO_chgs]
  cases priceO rs n <;> rfl
end
theorem prices_chgs (t m : Int) (dl : Bool) {rs : List Rl} {b e : Int} (h : canB rs b e = true) : prices (chgs t m dl rs) b e = (prices rs b e).map fun i => i % 1000000000 * t + m := by
  unfold prices
  rw [List.map_map]
  refine List.map_congr_left fun n hn => ?_
  obtain ⟨i, hi⟩ := canB_price h hn
  show (priceO (chgs t m dl rs) n).getD 0 = (priceO rs n).getD 0 % 1000000000 * t + m
  rw [priceO_chgs, hi]
  rfl
/-! ### so many times as great -/
theorem sum_times (t : Int) : ∀ l : List Int, (l.map (· * t)).sum = l.sum * t
  | [] => by simp
  | a :: r => by rw [List.map_cons, List.sum_cons, List.sum_cons, sum_times t r, Int.add_mul]
theorem sum_more (m : Int) : ∀ l : List Int, (l.map (· + m)).sum = l.sum + m * (l.length : Int)
  | [] => by simp
  | a :: r => by
    rw [List.map_cons, List.sum_cons, List.sum_cons, sum_more m r, List.length_cons]
    have : m * ((r.length + 1 : Nat) : Int) = m * (r.length : Int) + m := by
      rw [Int.natCast_succ, Int.mul_add, Int.mul_one]
    omega
theorem freeSum_times {t : Int} (ht : 0 ≤ t) (l : List Int) (f : Nat) : freeSum (l.map (· * t)) f = freeSum l f * t := by
  have h1 : (l.mergeSort (fun a b => decide (a ≤ b))).Perm l := List.mergeSort_perm _ _
  have h2 : (l.mergeSort (fun a b => decide (a ≤ b))).Pairwise (fun a b => decide (a ≤ b) = true) := List.pairwise_mergeSort (fun a b c h1 h2 => by simp at h1 h2 ⊢; omega) (fun a b => by simp; omega) l
  have h3 : (l.mergeSort (fun a b => decide (a ≤ b))).Pairwise (· ≤ ·) := h2.imp fun h => of_decide_eq_true h
  rw [freeSum_of f (h1.map (· * t)) (List.Pairwise.map _ (fun a b h => Int.mul_le_mul_of_nonneg_right h ht) h3), ← List.map_take, sum_times]
  rfl
theorem freeTot_times {t : Int} (ht : 0 ≤ t) (ps : List Int) (m f : Nat) : ∀ k, freeTot (ps.map (· * t)) m f k = freeTot ps m f k * t
  | 0 => by simp [freeTot]
  | k + 1 => by
    show freeTot (ps.map (· * t)) m f k + freeSum (bund (ps.map (· * t)) m k) f = (freeTot ps m f k + freeSum (bund ps m k) f) * t
    have e : bund (ps.map (· * t)) m k = (bund ps m k).map (· * t) := by
      unfold bund
      rw [List.map_take, List.map_drop]
    rw [freeTot_times ht ps m f k, e, freeSum_times ht, Int.add_mul]
theorem unm_times {t : Int} (ht : 0 ≤ t) (ps : List Int) (d : Option (Int × Int)) : unm (ps.map (· * t)) d = unm ps d * t := by
  cases d with
  | none => exact sum_times t ps
  | some p =>
    obtain ⟨m, f⟩ := p
    show (ps.map (· * t)).sum - freeTot (ps.map (· * t)) m.toNat f.toNat ((ps.map (· * t)).length / m.toNat) = (ps.sum - freeTot ps m.toNat f.toNat (ps.length / m.toNat)) * t
    rw [sum_times, List.length_map, freeTot_times ht, Int.sub_mul]
theorem cost_times {t : Int} (ht : 0 ≤ t) (rs : List Rl) (b e : Int) : costO (chgs t 0 true rs) b e = (costO (chgs 1 0 true rs) b e).map (· * t) := by
  unfold costO
  rw [canB_chgs, canB_chgs]
  cases h : canB rs b e with
  | false => rfl
  | true =>
    show some (billI (chgs t 0 true rs) b e) = some (billI (chgs 1 0 true rs) b e * t)
    unfold billI
    rw [feeI_chgs, feeI_chgs, dealO_yes, dealO_yes, prices_chgs t 0 true h, prices_chgs 1 0 true h]
    have e1 : (prices rs b e).map (fun i => i % 1000000000 * t + 0) = ((prices rs b e).map fun i => i % 1000000000 * 1 + 0).map (· * t) := by
      rw [List.map_map]
      refine List.map_congr_left fun n _ => ?_
      show n % 1000000000 * t + 0 = (n % 1000000000 * 1 + 0) * t
      rw [Int.mul_one, Int.add_zero, Int.add_zero]
    rw [e1, unm_times ht, Int.add_mul, Int.mul_one]
theorem cost_more (m : Int) (rs : List Rl) {b e : Int} (hbe : b < e) : costO (chgs 1 m false rs) b e = (costO (chgs 1 0 false rs) b e).map (· + m * (e - b)) := by
  unfold costO
  rw [canB_chgs, canB_chgs]
  cases h : canB rs b e with
  | false => rfl
  | true =>
    show some (billI (chgs 1 m false rs) b e) = some (billI (chgs 1 0 false rs) b e + m * (e - b))
    unfold billI
    rw [feeI_chgs, feeI_chgs, dealO_no, dealO_no, prices_chgs 1 m false h, prices_chgs 1 0 false h]
    have e1 : (prices rs b e).map (fun i => i % 1000000000 * 1 + m) = ((prices rs b e).map fun i => i % 1000000000 * 1 + 0).map (· + m) := by
      rw [List.map_map]
      refine List.map_congr_left fun n _ => ?_
      show n % 1000000000 * 1 + m = n % 1000000000 * 1 + 0 + m
      omega
    have e2 : (((prices rs b e).map fun i => i % 1000000000 * 1 + 0).length : Int) = e - b := by
      rw [List.length_map, prices_length]
      omega
    rw [e1]
    show some (_ + (((prices rs b e).map fun i => i % 1000000000 * 1 + 0).map (· + m)).sum) = some (_ + ((prices rs b e).map fun i => i % 1000000000 * 1 + 0).sum + m * (e - b))
    rw [sum_more, e2]
    congr 1
    omega
theorem cost_there (t m : Int) (dl : Bool) (rs : List Rl) (b e : Int) : (costO (chgs t m dl rs) b e).isSome = canB rs b e := by
  unfold costO
  rw [canB_chgs]
  cases canB rs b e <;> rfl
/-! ### parts of other books -/
theorem Pc_map {F : List Rl → List Rl} {rss : List (List Rl)} {j : Nat} {b e c : Int} : Pc (rss.map F) j b e c ↔ ∃ rs, rss[j]? = some rs ∧ costO (F rs) b e = some c := by
  unfold Pc
  constructor
  · rintro ⟨rs, h1, h2⟩
    rw [List.getElem?_map] at h1
    cases q : rss[j]? with
    | none => rw [q] at h1; cases h1
    | some rs0 =>
      rw [q] at h1
      cases h1
      exact ⟨rs0, rfl, h2⟩
  · rintro ⟨rs, h1, h2⟩
    exact ⟨F rs, by rw [List.getElem?_map, h1]; rfl, h2⟩
abbrev Fam (rss : List (List Rl)) (t m : Int) (dl : Bool) : List (List Rl) := rss.map (chgs t m dl)
theorem Pc_there {rss : List (List Rl)} {t m t' m' : Int} {dl dl' : Bool} {j : Nat} {b e c : Int} (h : Pc (Fam rss t m dl) j b e c) : ∃ c', Pc (Fam rss t' m' dl') j b e c' := by
  obtain ⟨rs, h1, h2⟩ := Pc_map.mp h
  have h3 : (costO (chgs t' m' dl' rs) b e).isSome = true := by
    rw [cost_there, ← cost_there t m dl, h2]
    rfl
  obtain ⟨c', h4⟩ := Option.isSome_iff_exists.mp h3
  exact ⟨c', Pc_map.mpr ⟨rs, h1, h4⟩⟩
theorem Pc_times {rss : List (List Rl)} {t : Int} (ht : 0 ≤ t) {j : Nat} {b e c : Int} : Pc (Fam rss t 0 true) j b e c ↔ ∃ c', Pc (Fam rss 1 0 true) j b e c' ∧ c = c' * t := by
  rw [Pc_map]
  constructor
  · rintro ⟨rs, h1, h2⟩
    rw [cost_times ht] at h2
    cases q : costO (chgs 1 0 true rs) b e with
    | none => rw [q] at h2; cases h2
    | some c' => rw [q] at h2; exact ⟨c', Pc_map.mpr ⟨rs, h1, q⟩, (Option.some.inj h2).symm⟩
  · rintro ⟨c', h, rfl⟩
    obtain ⟨rs, h1, h2⟩ := Pc_map.mp h
    exact ⟨rs, h1, by rw [cost_times ht, h2]; rfl⟩
theorem Pc_more {rss : List (List Rl)} {m : Int} {j : Nat} {b e c : Int} (hbe : b < e) : Pc (Fam rss 1 m false) j b e c ↔ ∃ c', Pc (Fam rss 1 0 false) j b e c' ∧ c = c' + m * (e - b) := by
  rw [Pc_map]
  constructor
  · rintro ⟨rs, h1, h2⟩
    rw [cost_more m rs hbe] at h2
    cases q : costO (chgs 1 0 false rs) b e with
    | none => rw [q] at h2; cases h2
    | some c' => rw [q] at h2; exact ⟨c', Pc_map.mpr ⟨rs, h1, q⟩, (Option.some.inj h2).symm⟩
  · rintro ⟨c', h, rfl⟩
    obtain ⟨rs, h1, h2⟩ := Pc_map.mp h
    exact ⟨rs, h1, by rw [cost_more m rs hbe, h2]; rfl⟩
/-! ### papers bound cuts -/
theorem psum_add (x : Int) (p : List Int) {b m e : Int} (h1 : x ≤ b) (h2 : b ≤ m) (h3 : m ≤ e) : psum x p b m + psum x p m e = psum x p b e := by
  unfold psum
  have e1 : (m - x).toNat = (b - x).toNat + (m - b).toNat := by omega
  have e2 : (e - b).toNat = (m - b).toNat + (e - m).toNat := by omega
  rw [e1, ← List.drop_drop, e2, List.take_add, List.sum_append]
theorem chain_ge {rss : List (List Rl)} {x y : Int} {p : List Int} (h : ∀ j b e c, x ≤ b → b < e → e ≤ y → Pc rss j b e c → psum x p b e ≤ c) : ∀ {b : Int} {cut : List (Int × Int × Nat)} {tot : Int}, x ≤ b → Chain rss b y cut tot → psum x p b y ≤ tot := by
  intro b cut tot hb hc
  generalize hy : y = z at hc h
  have main : ∀ {b : Int} {cut : List (Int × Int × Nat)} {tot z : Int}, Chain rss b z cut tot → x ≤ b → (∀ j b e c, x ≤ b → b < e → e ≤ z → Pc rss j b e c → psum x p b e ≤ c) → psum x p b z ≤ tot := by
    intro b cut tot z hc
    induction hc with
    | nil b =>
      intro _ _
      unfold psum
      rw [show (b - b).toNat = 0 by omega]
      simp
    | @cons b m e j c t l h1 h2 h3 ih =>
      intro hb hh
      have q1 := hh j b m c hb h1 h3.le h2
      have q2 := ih (by omega) hh
      have := psum_add x p hb (Int.le_of_lt h1) h3.le
      omega
  exact main hc hb h
theorem psum_all {x y : Int} {p : List Int} (h : p.length = (y - x).toNat) : psum x p x y = p.sum := by
  unfold psum
  rw [show (x - x).toNat = 0 by omega, List.drop_zero, ← h, List.take_length]
theorem psum_times (x : Int) (p : List Int) (t b e : Int) : psum x (p.map (· * t)) b e = psum x p b e * t := by
  unfold psum
  rw [← List.map_drop, ← List.map_take, sum_times]
theorem psum_more {x y : Int} {p : List Int} (h : p.length = (y - x).toNat) (m : Int) {b e : Int} (h1 : x ≤ b) (h2 : b ≤ e) (h3 : e ≤ y) : psum x (p.map (· + m)) b e = psum x p b e + m * (e - b) := by
  unfold psum
  rw [← List.map_drop, ← List.map_take, sum_more, List.length_take, List.length_drop]
  have : ((min (e - b).toNat (p.length - (b - x).toNat) : Nat) : Int) = e - b := by omega
  rw [this]
theorem Chain.times {rss : List (List Rl)} {t : Int} (ht : 0 ≤ t) : ∀ {x y : Int} {cut : List (Int × Int × Nat)} {tot : Int}, Chain (Fam rss 1 0 true) x y cut tot → Chain (Fam rss t 0 true) x y cut (tot * t) := by
  intro x y cut tot h
  induction h with
  | nil b =>
    rw [Int.zero_mul]
    exact .nil b
  | cons h1 h2 h3 ih =>
    rw [Int.add_mul]
    exact .cons h1 ((Pc_times ht).mpr ⟨_, h2, rfl⟩) ih
theorem Chain.more {rss : List (List Rl)} {m : Int} : ∀ {x y : Int} {cut : List (Int × Int × Nat)} {tot : Int}, Chain (Fam rss 1 0 false) x y cut tot → Chain (Fam rss 1 m false) x y cut (tot + m * (y - x)) := by
  intro x y cut tot h
  induction h with
  | nil b =>
    rw [Int.sub_self, Int.mul_zero, Int.add_zero]
    exact .nil b
  | @cons b mm e j c t l h1 h2 h3 ih =>
    have e1 : c + t + m * (e - b) = (c + m * (mm - b)) + (t + m * (e - mm)) := by
      rw [show e - b = (mm - b) + (e - mm) by omega, Int.mul_add]
      omega
    rw [e1]
    exact .cons h1 ((Pc_more h1).mpr ⟨_, h2, rfl⟩) ih
/-! ### what the law asks -/
def isHad : Res → Bool
  | .had _ _ _ => true
  | .off _ => false
theorem closed_end {rss : List (List Rl)} {days : List Int} {x y : Int} : ∀ {b : Int} {cut : List (Int × Int × Nat)} {tot : Int}, Chain rss b y cut tot → x ≤ b → (∀ j b e c, x ≤ b → b < e → e ≤ y → Pc rss j b e c → b ∈ days → e ∈ days) → b ∈ days → y ∈ days := by
  intro b cut tot h
  induction h with
  | nil b => exact fun _ _ h => h
  | cons h1 h2 h3 ih => exact fun hx hh hb => ih (by omega) hh (hh _ _ _ _ hx h1 h3.le h2 hb)
theorem Chain.fam {rss : List (List Rl)} {t m t' m' : Int} {dl dl' : Bool} : ∀ {x y : Int} {cut : List (Int × Int × Nat)} {tot : Int}, Chain (Fam rss t m dl) x y cut tot → ∃ tot', Chain (Fam rss t' m' dl') x y cut tot' := by
  intro x y cut tot h
  induction h with
  | nil b => exact ⟨0, .nil b⟩
  | cons h1 h2 h3 ih =>
    obtain ⟨c', h4⟩ := Pc_there (t' := t') (m' := m') (dl' := dl') h2
    obtain ⟨tot', h5⟩ := ih
    exact ⟨c' + tot', .cons h1 h4 h5⟩
theorem had_off {rss : List (List Rl)} {x y : Int} {t m t' m' : Int} {dl dl' : Bool} {c : Int} {cut : List (Int × Int × Nat)} {p days : List Int} (h1 : ResOk (Fam rss t m dl) x y (.had c cut p)) (h2 : ResOk (Fam rss t' m' dl') x y (.off days)) : False := by
  obtain ⟨tot', hc⟩ := h1.1.fam (t' := t') (m' := m') (dl' := dl')
  obtain ⟨a1, a2, a3, a4⟩ := h2
  have := a2 y (closed_end hc (Int.le_refl _) a4 a1)
  omega
theorem same_kind {rss : List (List Rl)} {x y : Int} {t m t' m' : Int} {dl dl' : Bool} {r r' : Res} (h1 : ResOk (Fam rss t m dl) x y r) (h2 : ResOk (Fam rss t' m' dl') x y r') : isHad r = isHad r' := by
  cases r with
  | had c cut p =>
    cases r' with
    | had _ _ _ => rfl
    | off days => exact (had_off h1 h2).elim
  | off days =>
    cases r' with
    | had _ _ _ => exact (had_off h2 h1).elim
    | off _ => rfl
theorem off_fam {rss : List (List Rl)} {x y : Int} {t m t' m' : Int} {dl dl' : Bool} {days : List Int} (h : ResOk (Fam rss t m dl) x y (.off days)) : ResOk (Fam rss t' m' dl') x y (.off days) := by
  obtain ⟨a1, a2, a3, a4⟩ := h
  refine ⟨a1, a2, a3, fun j b e c k1 k2 k3 k4 k5 => ?_⟩
  obtain ⟨c', k6⟩ := Pc_there (t' := t) (m' := m) (dl' := dl) k4
  exact a4 j b e c' k1 k2 k3 k6 k5
theorem paper_times {rss : List (List Rl)} {x y t : Int} (ht : 0 ≤ t) {p : List Int} (h : ∀ j b e c, x ≤ b → b < e → e ≤ y → Pc (Fam rss 1 0 true) j b e c → psum x p b e ≤ c) : ∀ j b e c, x ≤ b → b < e → e ≤ y → Pc (Fam rss t 0 true) j b e c → psum x (p.map (· * t)) b e ≤ c := by
  intro j b e c k1 k2 k3 k4
  obtain ⟨c', k5, rfl⟩ := (Pc_times ht).mp k4
  rw [psum_times]
  exact Int.mul_le_mul_of_nonneg_right (h j b e c' k1 k2 k3 k5) ht
theorem paper_more {rss : List (List Rl)} {x y m : Int} {p : List Int} (hl : p.length = (y - x).toNat) (h : ∀ j b e c, x ≤ b → b < e → e ≤ y → Pc (Fam rss 1 0 false) j b e c → psum x p b e ≤ c) : ∀ j b e c, x ≤ b → b < e → e ≤ y → Pc (Fam rss 1 m false) j b e c → psum x (p.map (· + m)) b e ≤ c := by
  intro j b e c k1 k2 k3 k4
  obtain ⟨c', k5, rfl⟩ := (Pc_more k2).mp k4
  rw [psum_more hl m k1 (Int.le_of_lt k2) k3]
  have := h j b e c' k1 k2 k3 k5
  omega
theorem great_eq {rss : List (List Rl)} {x y t : Int} (ht : 0 ≤ t) (hxy : x < y) {c1 c2 : Int} {cut1 cut2 : List (Int × Int × Nat)} {p1 p2 : List Int} (h1 : ResOk (Fam rss 1 0 true) x y (.had c1 cut1 p1)) (h2 : ResOk (Fam rss t 0 true) x y (.had c2 cut2 p2)) : c2 = c1 * t := by
  obtain ⟨a1, a2, a3, a4⟩ := h1
  obtain ⟨b1, b2, b3, b4⟩ := h2
  have q1 := chain_ge b4 (Int.le_refl x) (a1.times ht)
  have q2 := chain_ge (paper_times ht a4) (Int.le_refl x) b1
  rw [psum_all b2, b3] at q1
  rw [psum_all (by rw [List.length_map]; exact a2), sum_times, a3] at q2
  omega
theorem great_ok {rss : List (List Rl)} {x y t : Int} (ht : 0 ≤ t) {c1 : Int} {cut1 : List (Int × Int × Nat)} {p1 : List Int} (h1 : ResOk (Fam rss 1 0 true) x y (.had c1 cut1 p1)) : ResOk (Fam rss t 0 true) x y (.had (c1 * t) cut1 (p1.map (· * t))) := by
  obtain ⟨a1, a2, a3, a4⟩ := h1
  exact ⟨a1.times ht, by rw [List.length_map]; exact a2, by rw [sum_times, a3], paper_times ht a4⟩
theorem more_eq {rss : List (List Rl)} {x y m : Int} (hxy : x < y) {c1 c2 : Int} {cut1 cut2 : List (Int × Int × Nat)} {p1 p2 : List Int} (h1 : ResOk (Fam rss 1 0 false) x y (.had c1 cut1 p1)) (h2 : ResOk (Fam rss 1 m false) x y (.had c2 cut2 p2)) : c2 = c1 + m * (y - x) := by
  obtain ⟨a1, a2, a3, a4⟩ := h1
  obtain ⟨b1, b2, b3, b4⟩ := h2
  have q1 := chain_ge b4 (Int.le_refl x) (a1.more (m := m))
  have q2 := chain_ge (paper_more a2 a4) (Int.le_refl x) b1
  rw [psum_all b2, b3] at q1
  have e : (p1.length : Int) = y - x := by omega
  rw [psum_all (by rw [List.length_map]; exact a2), sum_more, a3, e] at q2
  omega
theorem more_ok {rss : List (List Rl)} {x y m : Int} (hxy : x < y) {c1 : Int} {cut1 : List (Int × Int × Nat)} {p1 : List Int} (h1 : ResOk (Fam rss 1 0 false) x y (.had c1 cut1 p1)) : ResOk (Fam rss 1 m false) x y (.had (c1 + m * (y - x)) cut1 (p1.map (· + m))) := by
  obtain ⟨a1, a2, a3, a4⟩ := h1
  have e : (p1.length : Int) = y - x := by omega
  exact ⟨a1.more, by rw [List.length_map]; exact a2, by rw [sum_more, a3, e], paper_more a2 a4⟩
/-- the changed rules are rules -/
theorem chgs_ok {t m : Int} (h1 : 0 ≤ t) (h2 : t ≤ 900) (h3 : 0 ≤ m) (h4 : m < 1000000000) (dl : Bool) {rs : List Rl} (h : ∀ r ∈ rs, r.Ok) : ∀ r ∈ chgs t m dl rs, r.Ok := by
  intro r hr
  obtain ⟨r0, hm, e⟩ := List.mem_filterMap.mp hr
  have ok := h r0 hm
  unfold chgR at e
  split at e
  · cases e
  · rename_i nout
    clear nout
    cases e
    refine ⟨ok.lo, ok.le, ok.hi, ?_⟩
    have wo := ok.wo
    have bnd : ∀ i : Int, 0 ≤ i % 1000000000 * t ∧ i % 1000000000 * t ≤ 999999999 * 900 := fun i => by
      have a1 : 0 ≤ i % 1000000000 := Int.emod_nonneg _ (by decide)
      have a2 : i % 1000000000 ≤ 999999999 := by
        have := Int.emod_lt_of_pos i (show (0 : Int) < 1000000000 by decide)
        omega
      exact ⟨Int.mul_nonneg a1 h1, Int.le_trans (Int.mul_le_mul_of_nonneg_right a2 h1) (Int.mul_le_mul_of_nonneg_left h2 (by decide))⟩
    show WoOk r0.w (chgX t m r0.w r0.x)
    obtain ⟨rw0, ra, rb, rx⟩ := r0
    cases rw0 <;> cases rx <;> first
      | exact wo
      | (rename_i i; have := bnd i; simp only [chgX, mapW, WoOk]; omega)
end Stp
namespace Stp
open PySem PySem.Spec PyProof.Rows L2
section
variable {P : Program} {w : World} {K : PySem.W.Frag} {mg : Str → Option Value} {base : Heap}

/-- the law's tape: a list of the digits' list, the cells' list and a count -/
structure TpAt (H : Hp) (t d c : Addr) : Prop where
  ex : ∃ (n : Int) (ds cs : List Int), H t = some (.lst [.ref d, .ref c, .int n]) ∧ H d = some (.lst (ds.map V.int)) ∧ (∀ z ∈ ds, 0 ≤ z) ∧ H c = some (.lst (cs.map V.int))
  td : t ≠ d
  tc : t ≠ c
  dc : d ≠ c
/-- all but the tape stays -/
def KpT (t d : Addr) (H H' : Hp) : Prop := ∀ b o, H b = some o → b ≠ t → b ≠ d → H' b = some o
theorem KpT.refl (t d : Addr) (H : Hp) : KpT t d H H := fun _ _ h _ _ => h
theorem KpT.trans {t d : Addr} {H H1 H2 : Hp} (a : KpT t d H H1) (b : KpT t d H1 H2) : KpT t d H H2 := fun p o h h1 h2 => b p o (a p o h h1 h2) h1 h2
theorem KpT.of {t d : Addr} {H H' : Hp} (s : Same H H') : KpT t d H H' := fun p o h _ _ => s p o h
theorem KpT.kt {t d c : Addr} {H H' : Hp} (T : TpAt H t d c) (k : KpT t d H H') : KT H H' := fun b xs h => by
  obtain ⟨n, ds, cs, h1, h2, _, _⟩ := T.ex
  exact k b _ h (ne_of h h1 (by intro z; cases z)) (ne_of h h2 (by intro z; cases z))
theorem TpAt.mono {H H' : Hp} (s : Same H H') {t d c : Addr} (T : TpAt H t d c) : TpAt H' t d c := by
  obtain ⟨⟨n, ds, cs, h1, h2, h3, h4⟩, a1, a2, a3⟩ := T
  exact ⟨⟨n, ds, cs, s _ _ h1, s _ _ h2, h3, s _ _ h4⟩, a1, a2, a3⟩
/-- a new object beside the tape, and stores to it -/
theorem TpAt.other {H : Hp} {t d c : Addr} (T : TpAt H t d c) {p : Addr} {o : HO} (h1 : p ≠ t) (h2 : p ≠ d) (h3 : p ≠ c) : TpAt (upd H p o) t d c := by
  obtain ⟨⟨n, ds, cs, k1, k2, k3, k4⟩, a1, a2, a3⟩ := T
  exact ⟨⟨n, ds, cs, by rw [upd_ne h1.symm]; exact k1, by rw [upd_ne h2.symm]; exact k2, k3, by rw [upd_ne h3.symm]; exact k4⟩, a1, a2, a3⟩
theorem TpAt.fresh {H : Hp} {t d c : Addr} (T : TpAt H t d c) {p : Addr} (h : H p = none) : p ≠ t ∧ p ≠ d ∧ p ≠ c := by
  obtain ⟨n, ds, cs, k1, k2, k3, k4⟩ := T.ex
  exact ⟨(ne_of_none k1 h).symm, (ne_of_none k2 h).symm, (ne_of_none k4 h).symm⟩
theorem KpT.new {t d : Addr} {H H1 : Hp} (k : KpT t d H H1) {p : Addr} (h : H p = none) {o : HO} : KpT t d H (upd H1 p o) := fun b u e h1 h2 => by
  rw [upd_ne (ne_of_none e h)]
  exact k b u e h1 h2
/-- what a function of the tape hands back -/
abbrev TpQ (H : Hp) (t d c : Addr) (R : V → Hp → Prop) (Q : VK) : Prop := ∀ v H', TpAt H' t d c → KpT t d H H' → R v H' → Q v H'

theorem sc_law_tape : FnScope ["_law_script", "_law_cell"] ["_law_script"] (defScope sLawTape) := ⟨rfl, rfl, rfl, by decide +kernel, rfl, by decide +kernel, by decide +kernel⟩

def sp_law_tape (K : PySem.W.Frag) : Sp := sp1 fun a H Q => ∃ (s : Addr) (ns : List Int), a = .ref s ∧ SqL K H s (ns.map V.int) ∧ ns.length ≤ 63 ∧ ∀ t d c H', Same H H' → H t = none → H d = none → H c = none → TpAt H' t d c → Q (.ref t) H'
theorem has_law_tape (T : Tx K mg) : Has P w K mg base "_law_tape" 1 ["_law_script"] (sp_law_tape K) := by
  have g_nd := sc_law_tape.nd
  refine T.d_law_tape.has sc_law_tape (fun _ _ _ _ _ _ us hl => match us, hl with | [_], _ => rfl) sp1_len (fun cdv A outer s H vs Q E hr h => ?_)
  obtain ⟨a0, rfl, h⟩ := h
  obtain ⟨s, ns, rfl, hs, hlen, k⟩ := h
  refine ⟨_, (pss_one (ps_ret (pe_lst (pa_cons (pe_lc (own := [("_law_cell", 1)]) (g := gName 1) rfl g_nd (pi_list (pe_slice sl_list (pv 0) po_none (po_some pe_int))) (blkOk_by (own := [("_law_cell", 1)]) (N := ["_law_script", "_law_cell"]) (sc := defScope sLawTape) (by decide +kernel)) (fun _ _ _ _ _ => (pg_name (i := 1) g_nd rfl (by first | exact Or.inl rfl | exact Or.inr rfl))) (fun _ _ _ _ _ => (pts_one (pt_cmpR op_ge (pe_callB (id := "abs") call_abs (by rfl) T.b_abs (by decide +kernel) (pa_cons (pv 1) pa_nil)) (pe_op op_pow pe_int pe_int) (nomark _)))) (fun _ _ _ _ _ => (pe_callB (id := "abs") call_abs (by rfl) T.b_abs (by decide +kernel) (pa_cons (pv 1) pa_nil)))) (pa_cons (pe_callTy call_list_of (by rfl) T.b_list (by decide +kernel) (pa_cons (pe_slice sl_list (pv 0) po_none (po_some pe_int)) pa_nil)) (pa_cons pe_int pa_nil)))))), ?_⟩
  have ecut : cutV (ns.map V.int) none (some (63 : Int)) = ns.map V.int := by
    unfold cutV
    rw [HT.sIx_none, show (63 : Int) = ((63 : Nat) : Int) from rfl, HT.sIx_nat, List.drop_zero, Nat.sub_zero, List.length_map, Nat.min_eq_right hlen]
    exact List.take_of_length_le (by rw [List.length_map]; exact Nat.le_refl _)
  refine ⟨_, rfl, _, rfl, s, _, rfl, hs, fun p1 hp1 => ?_⟩
  rw [ecut]
  have s1 : Same H (upd H p1 (.lst (ns.map V.int))) := snewR hp1
  refine ⟨p1, rfl, ⟨_, SqL.of upd_same⟩, fun D hD => ?_⟩
  have n1D : p1 ≠ D := ne_of_none upd_same hD
  refine lc_list (K := K) (a := p1) (xs := ns.map V.int) (fun i Hc => Same (upd H p1 (.lst (ns.map V.int))) Hc ∧ ∃ acc : List Int, Hc D = some (.lst (acc.map V.int)) ∧ acc.length ≤ i ∧ ∀ z ∈ acc, 0 ≤ z)
    ⟨snewR hD, [], upd_same, Nat.le_refl _, fun z h => (by cases h)⟩ (fun i Hc _ ⟨s2, _⟩ => SqL.of (s2 _ _ upd_same)) ?_ ?_
  · rintro i z Hc hz ⟨s2, acc, ha, hal, hac⟩
    obtain ⟨n, hn, rfl⟩ : ∃ n, ns[i]? = some n ∧ z = V.int n := by
      rw [List.getElem?_map] at hz
      cases e : ns[i]? with
      | none => rw [e] at hz; cases hz
      | some n => rw [e] at hz; exact ⟨n, rfl, (Option.some.inj hz).symm⟩
    have hi := (List.getElem?_eq_some_iff.mp hn).1
    refine ⟨rfl, ?_⟩
    refine ⟨_, rfl, n, rfl, _, _, rfl, rfl, ⟨by decide, by decide, by decide⟩, _, _, rfl, rfl, _, rfl, ?_⟩
    refine ite2 (fun q => ?_) (fun q => ?_)
    · refine ⟨_, rfl, n, rfl, _, ha, by rw [List.length_map]; exact small15 (by omega), snew s2 hD, acc ++ [if n < 0 then -n else n], by rw [upd_same, List.map_append]; rfl, by rw [List.length_append]; exact Nat.succ_le_succ hal, fun z hz => ?_⟩
      rcases List.mem_append.mp hz with h | h
      · exact hac z h
      · rw [List.mem_singleton.mp h]
        split <;> omega
    · exact ⟨s2, acc, ha, Nat.le_succ_of_le hal, hac⟩
  rintro H1 ⟨s2, acc, ha, hal, hac⟩
  have s02 := s1.trans s2
  refine ⟨_, rfl, _, rfl, s, _, rfl, s02.seq hs, fun p2 hp2 => ?_⟩
  rw [ecut]
  refine ⟨p2, _, rfl, .inl (SqL.of upd_same), fun c hc => ⟨by show 3 ≤ sizeLine; decide, fun t ht => ?_⟩⟩
  have s03 : Same H1 (upd (upd H1 p2 (.lst (ns.map V.int))) c (.lst (ns.map V.int))) := (snewR hp2).trans (snewR hc)
  have nct : c ≠ t := ne_of_none upd_same ht
  have hD3 := s03 _ _ ha
  have nDt : D ≠ t := ne_of_none hD3 ht
  have nDc : D ≠ c := ne_of_none (snewR (o := .lst (ns.map V.int)) hp2 _ _ ha) hc
  refine k t D c _ ((s02.trans s03).trans (snewR ht)) ((s02.trans s03).free ht) (s1.free hD) (s02.free ((snewR hp2).free hc)) ⟨⟨0, acc, ns, upd_same, by rw [upd_ne nDt]; exact hD3, hac, by rw [upd_ne nct, upd_same]⟩, nDt.symm, nct.symm, nDc⟩

theorem at_zero (z : Int) (zs : List Int) : atI ((z :: zs).map V.int) 0 = some (.int z) := at_of (j := 0) rfl rfl
theorem mod_ok (a : Int) {m : Int} (h : 0 < m) : 0 ≤ a % m ∧ a % m < m := ⟨Int.emod_nonneg _ (by omega), Int.emod_lt_of_pos _ h⟩
theorem modb (a : Int) {m : Int} (h : 0 < m) (h2 : m < 2 ^ 64) : -(2 ^ 64) < a % m ∧ a % m < 2 ^ 64 := by
  obtain ⟨h3, h4⟩ := mod_ok a h
  omega
theorem log_ok {m : Int} (h : 0 < m) (h2 : m ≤ 1000000000001) : CDivW 0 m := wide_div (b := 64) h (by omega) (by decide) (by decide)
theorem ixN_mod {n : Nat} (a : Int) (h : 0 < n) : ∃ j : Nat, ixN n (a % (n : Int)) = some j ∧ j < n := by
  obtain ⟨h1, h2⟩ := mod_ok a (show (0 : Int) < (n : Int) by omega)
  refine ⟨(a % (n : Int)).toNat, ?_, by omega⟩
  unfold ixN
  rw [if_pos h1, if_pos h2]
theorem at_mod {ns : List Int} (a : Int) (h : 0 < ns.length) : ∃ z, atI (ns.map V.int) (a % (((ns.map V.int).length : Nat) : Int)) = some (.int z) := by
  rw [List.length_map]
  obtain ⟨j, h1, h2⟩ := ixN_mod a h
  refine ⟨ns[j], ?_⟩
  unfold atI
  rw [List.length_map, h1]
  show (ns.map V.int)[j]? = _
  rw [List.getElem?_map, List.getElem?_eq_getElem h2]
  rfl

theorem sc_law_draw : FnScope ["_law_tape_here", "_law_many", "_law_found", "_law_cell", "_law_number"] ["_law_tape_here", "_law_many"] (defScope sLawDraw) := ⟨rfl, rfl, rfl, by decide +kernel, rfl, by decide +kernel, by decide +kernel⟩

def sp_law_draw : Sp := sp2 fun a b H Q => ∃ t d c m, a = .ref t ∧ b = .int m ∧ TpAt H t d c ∧ 0 < m ∧ m ≤ 1000000000001 ∧ TpQ H t d c (fun v _ => ∃ r : Int, v = .int r ∧ 0 ≤ r ∧ r < m) Q
theorem has_law_draw (T : Tx K mg) : Has P w K mg base "_law_draw" 1 ["_law_tape_here", "_law_many"] (sp_law_draw) := by
  have g_nd := sc_law_draw.nd
  refine T.d_law_draw.has sc_law_draw (fun _ _ _ _ _ _ us hl => match us, hl with | [_, _], _ => rfl) sp2_len (fun cdv A outer s H vs Q E hr h => ?_)
  obtain ⟨a0, a1, rfl, h⟩ := h
  obtain ⟨t, d, c, m, rfl, rfl, TA, hm, hm2, k⟩ := h
  refine ⟨_, (pss_cons (ps_asg (pe_op op_add (pe_ix (r := rIxL K) ix_list (pv 0) pe_int (fun _ _ => rfl)) pe_int) (pg_sub (pv 0) pe_int set_list))
        (pss_cons (ps_while PassesOwn.never (PW.pt (pw_and (pt_cmpR op_gt (pe_callB (r := rLenS K) (id := "len") clen (by rfl) T.b_len (by decide +kernel) (pa_cons (pe_ix (r := rIxL K) ix_list (pv 0) pe_int (fun _ _ => rfl)) pa_nil)) pe_int (nomark _)) (pw_and1 (pt_cmpR op_eq (pe_ix (r := rIxL K) ix_list (pe_ix (r := rIxL K) ix_list (pv 0) pe_int (fun _ _ => rfl)) pe_int (fun _ _ => rfl)) pe_int (nomark _))))) (pss_one (ps_expr (pe_bm PySem.F.plainAttrs_list PySem.F.slot_list_pop PySem.F.type_list_pop mt_popAt (pe_ix (r := rIxL K) ix_list (pv 0) pe_int (fun _ _ => rfl)) (pa_cons pe_int pa_nil)))))
        (pss_cons (ps_if (pt_cmpR op_gt (pe_callB (r := rLenS K) (id := "len") clen (by rfl) T.b_len (by decide +kernel) (pa_cons (pe_ix (r := rIxL K) ix_list (pv 0) pe_int (fun _ _ => rfl)) pa_nil)) pe_int (nomark _)) (pss_cons (ps_set (i := 2) g_nd rfl (by first | exact Or.inl rfl | exact Or.inr rfl) (pe_op op_mod (pe_ix (r := rIxL K) ix_list (pe_ix (r := rIxL K) ix_list (pv 0) pe_int (fun _ _ => rfl)) pe_int (fun _ _ => rfl)) (pv 1)))
        (pss_cons (ps_asg (pe_op op_fdivW (pe_ix (r := rIxL K) ix_list (pe_ix (r := rIxL K) ix_list (pv 0) pe_int (fun _ _ => rfl)) pe_int (fun _ _ => rfl)) (pv 1)) (pg_sub (pe_ix (r := rIxL K) ix_list (pv 0) pe_int (fun _ _ => rfl)) pe_int set_list))
        (pss_one (ps_ret (pv 2))))) pss_nil)
        (pss_cons (ps_set (i := 3) g_nd rfl (by first | exact Or.inl rfl | exact Or.inr rfl) pe_int)
        (pss_cons (ps_if (pt_cmpR op_gt (pe_callB (r := rLenS K) (id := "len") clen (by rfl) T.b_len (by decide +kernel) (pa_cons (pe_ix (r := rIxL K) ix_list (pv 0) pe_int (fun _ _ => rfl)) pa_nil)) pe_int (nomark _)) (pss_one (ps_set (i := 3) g_nd rfl (by first | exact Or.inl rfl | exact Or.inr rfl) (pe_ix (r := rIxL K) ix_list (pe_ix (r := rIxL K) ix_list (pv 0) pe_int (fun _ _ => rfl)) (pe_op op_mod (pe_ix (r := rIxL K) ix_list (pv 0) pe_int (fun _ _ => rfl)) (pe_callB (r := rLenS K) (id := "len") clen (by rfl) T.b_len (by decide +kernel) (pa_cons (pe_ix (r := rIxL K) ix_list (pv 0) pe_int (fun _ _ => rfl)) pa_nil))) (fun _ _ => rfl)))) pss_nil)
        (pss_cons (ps_set (i := 4) g_nd rfl (by first | exact Or.inl rfl | exact Or.inr rfl) (pe_op op_mod (pe_op op_mul (pe_op op_add (pe_op op_add (pe_op op_mod (pv 3) pe_int) (pe_op op_mul pe_int (pe_ix (r := rIxL K) ix_list (pv 0) pe_int (fun _ _ => rfl)))) pe_int) pe_int) pe_int))
        (pss_cons (ps_set (i := 4) g_nd rfl (by first | exact Or.inl rfl | exact Or.inr rfl) (pe_op op_mod (pe_op op_add (pe_op op_add (pe_op op_mul (pv 4) (pv 4)) (pe_op op_mul pe_int (pe_ix (r := rIxL K) ix_list (pv 0) pe_int (fun _ _ => rfl)))) pe_int) pe_int))
        (pss_one (ps_ret (pe_op op_mod (pe_op op_fdivW (pe_op op_mod (pe_op op_mul (pe_op op_fdivW (pv 4) pe_int) pe_int) pe_int) pe_int) (pv 1))))))))))), ?_⟩
  obtain ⟨⟨n, ds, cs, h1, h2, h3, h4⟩, ntd, ntc, ndc⟩ := TA
  refine ⟨_, rfl, t, _, _, _, rfl, rfl, SqL.of h1, rfl, _, _, rfl, rfl, _, rfl, t, _, _, 2, rfl, rfl, h1, rfl, ?_⟩
  have g1 : (upd H t (.lst [.ref d, .ref c, .int (n + 1)])) t = some (.lst [.ref d, .ref c, .int (n + 1)]) := upd_same
  have g2 : (upd H t (.lst [.ref d, .ref c, .int (n + 1)])) d = some (.lst (ds.map V.int)) := by rw [upd_ne ntd.symm]; exact h2
  have g4 : (upd H t (.lst [.ref d, .ref c, .int (n + 1)])) c = some (.lst (cs.map V.int)) := by rw [upd_ne ntc.symm]; exact h4
  have gk : KpT t d H (upd H t (.lst [.ref d, .ref c, .int (n + 1)])) := fun b o e e1 _ => by rw [upd_ne e1]; exact e
  -- the while
  refine ⟨fun mm σ Hc => ∃ ds : List Int, mm = ds.length ∧ σ = [some (.ref t), some (.int m), none, none, none] ∧ Hc t = some (.lst [.ref d, .ref c, .int (n + 1)]) ∧ Hc d = some (.lst (ds.map V.int)) ∧ (∀ z ∈ ds, 0 ≤ z) ∧ Hc c = some (.lst (cs.map V.int)) ∧ KpT t d H Hc,
    ⟨ds.length, ds, rfl, rfl, g1, g2, h3, g4, gk⟩, ?_⟩
  clear h1 h2 h3 h4 g1 g2 g4 gk
  rintro mm σ Hc ⟨ds, rfl, rfl, h1, h2, h3, h4, hk⟩
  -- behind the while
  have rest : ∀ ds : List Int, (∀ z ∈ ds, 0 ≤ z) → ∀ Hc : Hp, Hc t = some (.lst [.ref d, .ref c, .int (n + 1)]) → Hc d = some (.lst (ds.map V.int)) → Hc c = some (.lst (cs.map V.int)) → KpT t d H Hc → TpAt Hc t d c :=
    fun ds h3 Hc h1 h2 h4 hk => ⟨⟨_, ds, cs, h1, h2, h3, h4⟩, ntd, ntc, ndc⟩
  refine ⟨_, rfl, t, _, _, _, rfl, rfl, SqL.of h1, rfl, d, _, rfl, .inl (SqL.of h2), _, _, rfl, rfl, _, rfl, ?_⟩
  cases ds with
  | nil =>
    refine iteFd (by simp) (iteF ?_)
    -- if len(tape[0]) > 0: no
    refine ⟨_, rfl, t, _, _, _, rfl, rfl, SqL.of h1, rfl, d, _, rfl, .inl (SqL.of h2), _, _, rfl, rfl, _, rfl, iteFd (by simp) ?_⟩
    have TA := rest [] (fun z h => by cases h) Hc h1 h2 h4 hk
    refine ⟨_, rfl, t, _, _, _, rfl, rfl, SqL.of h1, rfl, c, _, rfl, .inl (SqL.of h4), _, _, rfl, rfl, _, rfl, ?_⟩
    cases cs with
    | nil =>
      refine iteFd (by simp) ?_
      refine ⟨_, rfl, _, _, rfl, rfl, (show (0 : Int) < 999983 by decide), _, rfl, t, _, _, _, rfl, rfl, SqL.of h1, rfl, _, _, rfl, rfl, .inl ⟨by decide, by decide⟩, _, _, rfl, rfl, _, _, rfl, rfl, _, _, rfl, rfl, .inr ⟨by decide, by decide⟩, _, _, rfl, rfl, (show (0 : Int) < 2147483647 by decide), ?_⟩
      refine ⟨_, rfl, _, rfl, _, _, rfl, rfl, .inl (modb _ (by decide) (by decide)), _, rfl, t, _, _, _, rfl, rfl, SqL.of h1, rfl, _, _, rfl, rfl, .inl ⟨by decide, by decide⟩, _, _, rfl, rfl, _, _, rfl, rfl, _, _, rfl, rfl, (show (0 : Int) < 2147483629 by decide), ?_⟩
      refine ⟨_, rfl, _, _, rfl, rfl, ⟨by decide, by decide⟩, _, _, rfl, rfl, .inr ⟨by decide, by decide⟩, _, _, rfl, rfl, (show (0 : Int) < 2147483587 by decide), _, _, rfl, rfl, ⟨by decide, by decide⟩, _, rfl, _, _, rfl, rfl, hm, ?_⟩
      exact k _ _ TA hk ⟨_, rfl, (mod_ok _ hm).1, (mod_ok _ hm).2⟩
    | cons z0 cs0 =>
      refine iteTd (by rw [List.length_map, List.length_cons]; omega) ?_
      obtain ⟨zc, hzc⟩ := at_mod (ns := z0 :: cs0) (n + 1) (by simp)
      refine ⟨_, rfl, t, _, _, _, rfl, rfl, SqL.of h1, rfl, _, rfl, t, _, _, _, rfl, rfl, SqL.of h1, rfl, _, rfl, t, _, _, _, rfl, rfl, SqL.of h1, rfl, c, _, rfl, .inl (SqL.of h4), _, _, rfl, rfl, (show (0 : Int) < _ by rw [List.length_map, List.length_cons]; omega), c, _, _, _, rfl, rfl, SqL.of h4, hzc, ?_⟩
      refine ⟨_, rfl, _, _, rfl, rfl, (show (0 : Int) < 999983 by decide), _, rfl, t, _, _, _, rfl, rfl, SqL.of h1, rfl, _, _, rfl, rfl, .inl ⟨by decide, by decide⟩, _, _, rfl, rfl, _, _, rfl, rfl, _, _, rfl, rfl, .inr ⟨by decide, by decide⟩, _, _, rfl, rfl, (show (0 : Int) < 2147483647 by decide), ?_⟩
      refine ⟨_, rfl, _, rfl, _, _, rfl, rfl, .inl (modb _ (by decide) (by decide)), _, rfl, t, _, _, _, rfl, rfl, SqL.of h1, rfl, _, _, rfl, rfl, .inl ⟨by decide, by decide⟩, _, _, rfl, rfl, _, _, rfl, rfl, _, _, rfl, rfl, (show (0 : Int) < 2147483629 by decide), ?_⟩
      refine ⟨_, rfl, _, _, rfl, rfl, ⟨by decide, by decide⟩, _, _, rfl, rfl, .inr ⟨by decide, by decide⟩, _, _, rfl, rfl, (show (0 : Int) < 2147483587 by decide), _, _, rfl, rfl, ⟨by decide, by decide⟩, _, rfl, _, _, rfl, rfl, hm, ?_⟩
      exact k _ _ TA hk ⟨_, rfl, (mod_ok _ hm).1, (mod_ok _ hm).2⟩
  | cons z zs =>
    refine iteTd (by rw [List.length_map, List.length_cons]; omega) ?_
    refine ⟨_, rfl, t, _, _, _, rfl, rfl, SqL.of h1, rfl, d, _, _, .int z, rfl, rfl, SqL.of h2, at_zero _ _, rfl, _, rfl, ?_⟩
    by_cases hz : z = 0
    · refine iteTd (by rw [hz]) ?_
      refine ⟨fun σ' H' => ∃ ds : List Int, ds.length = zs.length ∧ σ' = [some (.ref t), some (.int m), none, none, none] ∧ H' t = some (.lst [.ref d, .ref c, .int (n + 1)]) ∧ H' d = some (.lst (ds.map V.int)) ∧ (∀ z ∈ ds, 0 ≤ z) ∧ H' c = some (.lst (cs.map V.int)) ∧ KpT t d H H', ?_, ?_⟩
      · rintro σ' H' ⟨ds, e, rfl, r⟩
        exact ⟨zs.length, by rw [List.length_cons]; omega, ds, e.symm, rfl, r⟩
      · refine ⟨_, rfl, t, _, _, _, rfl, rfl, SqL.of h1, rfl, .inl ⟨rfl, _, SqL.of h2⟩, d, _, 0, 0, _, rfl, rfl, h2, by decide, by decide, seqIndex_of (by decide) (by rw [List.length_map, List.length_cons]; omega), rfl, ?_⟩
        refine ⟨zs, rfl, rfl, by rw [upd_ne ntd]; exact h1, by rw [upd_same]; rfl, fun y hy => h3 y (List.mem_cons_of_mem _ hy), by rw [upd_ne ndc.symm]; exact h4, fun b o e e1 e2 => by rw [upd_ne e2]; exact hk b o e e1 e2⟩
    · refine iteFd (fun q => hz (V.int.inj q)) ?_
      have hzp : 0 ≤ z := h3 z List.mem_cons_self
      refine ⟨_, rfl, t, _, _, _, rfl, rfl, SqL.of h1, rfl, d, _, rfl, .inl (SqL.of h2), _, _, rfl, rfl, _, rfl, iteTd (by rw [List.length_map, List.length_cons]; omega) ?_⟩
      refine ⟨_, rfl, t, _, _, _, rfl, rfl, SqL.of h1, rfl, d, _, _, .int z, rfl, rfl, SqL.of h2, at_zero _ _, _, rfl, _, _, rfl, rfl, hm, ?_⟩
      refine ⟨_, rfl, t, _, _, _, rfl, rfl, SqL.of h1, rfl, d, _, _, .int z, rfl, rfl, SqL.of h2, at_zero _ _, _, rfl, _, _, rfl, rfl, ⟨hm, (log_ok hm hm2).2⟩, _, rfl, t, _, _, _, rfl, rfl, SqL.of h1, rfl, d, _, 0, 0, rfl, rfl, h2, ixN_nat (j := 0) (by rw [List.length_map, List.length_cons]; omega), ?_⟩
      obtain ⟨r1, r2⟩ := mod_ok z hm
      refine ⟨_, rfl, k _ _ ⟨⟨n + 1, z / m :: zs, cs, by rw [upd_ne ntd]; exact h1, by rw [upd_same]; rfl, fun y hy => ?_, by rw [upd_ne ndc.symm]; exact h4⟩, ntd, ntc, ndc⟩ (fun b o e e1 e2 => by rw [upd_ne e2]; exact hk b o e e1 e2) ⟨_, rfl, r1, r2⟩⟩
      rcases List.mem_cons.mp hy with e | hy
      · rw [e]
        exact Int.ediv_nonneg hzp (Int.le_of_lt hm)
      · exact h3 y (List.mem_cons_of_mem _ hy)

end
end Stp
namespace Stp
open PySem PySem.Spec PyProof.Rows L2
section
variable {P : Program} {w : World} {K : PySem.W.Frag} {mg : Str → Option Value} {base : Heap}

theorem at_in {xs : List V} {i : Int} (h1 : 0 ≤ i) (h2 : i < (xs.length : Int)) : ∃ v, atI xs i = some v ∧ v ∈ xs := by
  have h3 : i.toNat < xs.length := by omega
  exact ⟨xs[i.toNat], at_of (j := i.toNat) (by omega) (List.getElem?_eq_getElem h3), List.getElem_mem h3⟩
/-- a list of rules -/
def RL (H : Hp) (F : Addr) (rs : List Rl) : Prop := ∃ vs, H F = some (.lst vs) ∧ All2 (TuAt H) vs rs ∧ ∀ r ∈ rs, r.Ok
theorem RL.kp {H H' : Hp} {F t d c : Addr} {rs : List Rl} (h : RL H F rs) (T : TpAt H t d c) (k : KpT t d H H') (h1 : F ≠ t) (h2 : F ≠ d) : RL H' F rs := by
  obtain ⟨vs, a1, a2, a3⟩ := h
  exact ⟨vs, k _ _ a1 h1 h2, a2.mono fun _ _ => TuAt.kt (k.kt T), a3⟩
theorem RL.mono {H H' : Hp} {F : Addr} {rs : List Rl} (h : RL H F rs) (s : Same H H') : RL H' F rs := by
  obtain ⟨vs, a1, a2, a3⟩ := h
  exact ⟨vs, s _ _ a1, a2.mono fun _ _ => TuAt.kt (KT.of s), a3⟩
theorem RL.app {H : Hp} {F : Addr} {vs : List V} {rs : List Rl} {v : V} {r : Rl} (h1 : H F = some (.lst vs)) (h2 : All2 (TuAt H) vs rs) (h3 : ∀ r ∈ rs, r.Ok) (tv : TuAt H v r) (ok : r.Ok) : RL (upd H F (.lst (vs ++ [v]))) F (rs ++ [r]) :=
  ⟨_, upd_same, (h2.mono fun _ _ => TuAt.kt (KT.lst h1)).snoc (tv.kt (KT.lst h1)), fun r' hr => by
    rcases List.mem_append.mp hr with h | h
    · exact h3 r' h
    · rw [List.mem_singleton.mp h]
      exact ok⟩
theorem RL.one {H : Hp} {F : Addr} {v : V} {r : Rl} (hF : H F = none) (tv : TuAt H v r) (ok : r.Ok) : RL (upd H F (.lst [v])) F [r] :=
  ⟨_, upd_same, .cons (tv.mono (snewR hF)) .nil, fun r' hr => by rw [List.mem_singleton.mp hr]; exact ok⟩
theorem RL.nil {H : Hp} {F : Addr} : RL (upd H F (.lst [])) F [] := ⟨_, upd_same, .nil, fun r' hr => by cases hr⟩

theorem sc_law_coins : FnScope ["_law_tape_here"] ["_law_tape_here"] (defScope sLawCoins) := ⟨rfl, rfl, rfl, by decide +kernel, rfl, by decide +kernel, by decide +kernel⟩

def sp_law_coins : Sp := sp1 fun a H Q => ∃ t d c, a = .ref t ∧ TpAt H t d c ∧ TpQ H t d c (fun v _ => ∃ r : Int, v = .int r ∧ 0 ≤ r ∧ r ≤ 1000000000000) Q
theorem has_law_coins (T : Tx K mg) : Has P w K mg base "_law_coins" 2 ["_law_tape_here"] (sp_law_coins) := by
  have g_law_draw := has_law_draw (P := P) (w := w) (base := base) T
  have g_nd := sc_law_coins.nd
  refine T.d_law_coins.has sc_law_coins (fun _ _ _ _ _ _ us hl => match us, hl with | [_], _ => rfl) sp1_len (fun cdv A outer s H vs Q E hr h => ?_)
  obtain ⟨a0, rfl, h⟩ := h
  obtain ⟨t, d, c, rfl, TA, k⟩ := h
  refine ⟨_, (pss_one (ps_ret (pe_ix (r := rIxL K) ix_list (pe_lst (pa_cons pe_int (pa_cons (pcall g_law_draw (hr.mono (by decide)) (by rfl) (pa_cons (pv 0) (pa_cons pe_int pa_nil))) (pa_cons (pcall g_law_draw (hr.mono (by decide)) (by rfl) (pa_cons (pv 0) (pa_cons pe_int pa_nil))) (pa_cons (pe_op op_pow pe_int pe_int) (pa_cons (pcall g_law_draw (hr.mono (by decide)) (by rfl) (pa_cons (pv 0) (pa_cons (pe_op op_add (pe_op op_pow pe_int pe_int) pe_int) pa_nil))) pa_nil)))))) (pcall g_law_draw (hr.mono (by decide)) (by rfl) (pa_cons (pv 0) (pa_cons pe_int pa_nil))) (fun _ _ => rfl)))), ?_⟩
  refine ⟨_, rfl, _, _, rfl, t, d, c, 60, rfl, rfl, TA, by decide, by decide, fun v1 H1 T1 k1 hx => ?_⟩
  obtain ⟨x1, rfl, x1a, x1b⟩ := hx
  refine ⟨_, rfl, _, _, rfl, t, d, c, 60, rfl, rfl, T1, by decide, by decide, fun v2 H2 T2 k2 hx => ?_⟩
  obtain ⟨x2, rfl, x2a, x2b⟩ := hx
  refine ⟨_, _, rfl, rfl, ⟨by decide, by decide, by decide⟩, ?_⟩
  refine ⟨_, rfl, _, _, rfl, rfl, ⟨by decide, by decide, by decide⟩, _, _, rfl, rfl, ?_⟩
  refine ⟨_, _, rfl, t, d, c, 1000000000001, rfl, rfl, T2, by decide, by decide, fun v3 H3 T3 k3 hx => ?_⟩
  obtain ⟨x3, rfl, x3a, x3b⟩ := hx
  refine ⟨by show 5 ≤ sizeLine; decide, fun p hp => ?_⟩
  have k03 : KpT t d H H3 := (k1.trans k2).trans k3
  obtain ⟨n1, n2, n3⟩ := T3.fresh hp
  refine ⟨_, rfl, _, _, rfl, t, d, c, 5, rfl, rfl, (T3.other n1 n2 n3), by decide, by decide, fun v4 H4 T4 k4 hx => ?_⟩
  obtain ⟨x4, rfl, x4a, x4b⟩ := hx
  have hp4 := k4 p _ upd_same n1 n2
  have hm : ∀ z ∈ [V.int 0, V.int x1, V.int x2, V.int (10 ^ (12 : Int).toNat), V.int x3], ∃ r : Int, z = .int r ∧ 0 ≤ r ∧ r ≤ 1000000000000 := by
    intro z hz
    simp only [List.mem_cons, List.not_mem_nil, or_false] at hz
    rcases hz with rfl | rfl | rfl | rfl | rfl
    · exact ⟨_, rfl, by omega, by omega⟩
    · exact ⟨_, rfl, by omega, by omega⟩
    · exact ⟨_, rfl, by omega, by omega⟩
    · exact ⟨_, rfl, by decide, by decide⟩
    · exact ⟨_, rfl, by omega, by omega⟩
  obtain ⟨z, hz1, hz2⟩ := at_in (xs := [V.int 0, V.int x1, V.int x2, V.int (10 ^ (12 : Int).toNat), V.int x3]) x4a (by show x4 < 5; omega)
  exact ⟨p, _, _, z, rfl, rfl, SqL.of hp4, hz1, k z H4 T4 ((k03.trans (KpT.of (snewR hp))).trans k4) (hm z hz2)⟩

theorem sc_law_worth : FnScope ["_law_tape_here", "_law_word", "_law_many"] ["_law_tape_here", "_law_word"] (defScope sLawWorth) := ⟨rfl, rfl, rfl, by decide +kernel, rfl, by decide +kernel, by decide +kernel⟩

def sp_law_worth : Sp := sp2 fun a b H Q => ∃ t d c wd, a = .ref t ∧ b = .str (Wd.s wd) ∧ wd ≠ .price ∧ TpAt H t d c ∧ TpQ H t d c (fun v H' => ∃ wo, WoAt H' v wo ∧ WoOk wd wo) Q
theorem has_law_worth (T : Tx K mg) : Has P w K mg base "_law_worth" 3 ["_law_tape_here", "_law_word"] (sp_law_worth) := by
  have g_law_draw := has_law_draw (P := P) (w := w) (base := base) T
  have g_law_coins := has_law_coins (P := P) (w := w) (base := base) T
  have g_nd := sc_law_worth.nd
  refine T.d_law_worth.has sc_law_worth (fun _ _ _ _ _ _ us hl => match us, hl with | [_, _], _ => rfl) sp2_len (fun cdv A outer s H vs Q E hr h => ?_)
  obtain ⟨a0, a1, rfl, h⟩ := h
  obtain ⟨t, d, c, wd, rfl, rfl, hwd, TA, k⟩ := h
  refine ⟨_, (pss_cons (ps_if (pt_cmpR op_eq (pv 1) pe_str (nomark _)) (pss_one (ps_ret (pe_ix (r := rIxL K) ix_list (pe_lst (pa_cons pe_non (pa_cons (pcall g_law_coins (hr.mono (by decide)) (by rfl) (pa_cons (pv 0) pa_nil)) (pa_cons (pcall g_law_coins (hr.mono (by decide)) (by rfl) (pa_cons (pv 0) pa_nil)) pa_nil)))) (pcall g_law_draw (hr.mono (by decide)) (by rfl) (pa_cons (pv 0) (pa_cons pe_int pa_nil))) (fun _ _ => rfl)))) pss_nil)
        (pss_cons (ps_if (PW.pt (pw_or (pt_cmpR op_eq (pv 1) pe_str (nomark _)) (pw_or1 (pt_cmpR op_eq (pv 1) pe_str (nomark _))))) (pss_one (ps_ret (pe_cmpR op_eq (pcall g_law_draw (hr.mono (by decide)) (by rfl) (pa_cons (pv 0) (pa_cons pe_int pa_nil))) pe_int (nomark _)))) pss_nil)
        (pss_cons (ps_if (PW.pt (pw_or (pt_cmpR op_eq (pv 1) pe_str (nomark _)) (pw_or1 (pt_cmpR op_eq (pv 1) pe_str (nomark _))))) (pss_one (ps_ret (pe_op op_add pe_int (pcall g_law_draw (hr.mono (by decide)) (by rfl) (pa_cons (pv 0) (pa_cons pe_int pa_nil)))))) pss_nil)
        (pss_cons (ps_if (pt_cmpR op_eq (pv 1) pe_str (nomark _)) (pss_cons (ps_set (i := 2) g_nd rfl (by first | exact Or.inl rfl | exact Or.inr rfl) (pe_op op_add pe_int (pcall g_law_draw (hr.mono (by decide)) (by rfl) (pa_cons (pv 0) (pa_cons pe_int pa_nil)))))
        (pss_one (ps_ret (pe_ix (r := rIxL K) ix_list (pe_lst (pa_cons pe_non (pa_cons (pe_tup (pa_cons (pv 2) (pa_cons (pe_op op_add pe_int (pcall g_law_draw (hr.mono (by decide)) (by rfl) (pa_cons (pv 0) (pa_cons (pe_op op_sub (pv 2) pe_int) pa_nil)))) pa_nil))) (pa_cons (pe_tup (pa_cons pe_int (pa_cons pe_int pa_nil))) (pa_cons (pe_tup (pa_cons (pv 2) (pa_cons (pe_op op_sub (pv 2) pe_int) pa_nil))) pa_nil))))) (pcall g_law_draw (hr.mono (by decide)) (by rfl) (pa_cons (pv 0) (pa_cons pe_int pa_nil))) (fun _ _ => rfl))))) pss_nil)
        (pss_one (ps_ret (pcall g_law_coins (hr.mono (by decide)) (by rfl) (pa_cons (pv 0) pa_nil)))))))), ?_⟩
  have f1 : ∀ (A B : Prop), B → if (decide (V.str wd.s = V.str "price")) = true then A else B := fun A B h => iteFd (fun q => hwd (Wd.s_inj (v := .price) (V.str.inj q))) h
  refine ⟨_, rfl, rfl, _, rfl, f1 _ _ ?_⟩
  cases wd with
  | price => exact absurd rfl hwd
  | come =>
    refine ⟨_, rfl, rfl, _, rfl, iteTd rfl (iteT ?_)⟩
    refine ⟨_, rfl, _, _, rfl, t, d, c, 2, rfl, rfl, TA, by decide, by decide, fun v1 H1 T1 k1 hx => ?_⟩
    obtain ⟨x1, rfl, x1a, x1b⟩ := hx
    exact ⟨rfl, k _ H1 T1 k1 ⟨.bl _, .bl _, trivial⟩⟩
  | go =>
    refine ⟨_, rfl, rfl, _, rfl, iteFd (by decide +kernel) ⟨_, rfl, rfl, _, rfl, iteTd rfl ?_⟩⟩
    refine ⟨_, rfl, _, _, rfl, t, d, c, 2, rfl, rfl, TA, by decide, by decide, fun v1 H1 T1 k1 hx => ?_⟩
    obtain ⟨x1, rfl, x1a, x1b⟩ := hx
    exact ⟨rfl, k _ H1 T1 k1 ⟨.bl _, .bl _, trivial⟩⟩
  | least =>
    refine ⟨_, rfl, rfl, _, rfl, iteFd (by decide +kernel) ⟨_, rfl, rfl, _, rfl, iteFd (by decide +kernel) ?_⟩⟩
    refine ⟨_, rfl, rfl, _, rfl, iteTd rfl (iteT ?_)⟩
    refine ⟨_, rfl, _, _, rfl, t, d, c, 14, rfl, rfl, TA, by decide, by decide, fun v1 H1 T1 k1 hx => ?_⟩
    obtain ⟨x1, rfl, x1a, x1b⟩ := hx
    exact ⟨_, _, rfl, rfl, k _ H1 T1 k1 ⟨.int _, .int _, by show 1 ≤ 1 + x1; omega, by show 1 + x1 ≤ 14; omega⟩⟩
  | most =>
    refine ⟨_, rfl, rfl, _, rfl, iteFd (by decide +kernel) ⟨_, rfl, rfl, _, rfl, iteFd (by decide +kernel) ?_⟩⟩
    refine ⟨_, rfl, rfl, _, rfl, iteFd (by decide +kernel) ⟨_, rfl, rfl, _, rfl, iteTd rfl ?_⟩⟩
    refine ⟨_, rfl, _, _, rfl, t, d, c, 14, rfl, rfl, TA, by decide, by decide, fun v1 H1 T1 k1 hx => ?_⟩
    obtain ⟨x1, rfl, x1a, x1b⟩ := hx
    exact ⟨_, _, rfl, rfl, k _ H1 T1 k1 ⟨.int _, .int _, by show 1 ≤ 1 + x1; omega, by show 1 + x1 ≤ 14; omega⟩⟩
  | deal =>
    refine ⟨_, rfl, rfl, _, rfl, iteFd (by decide +kernel) ⟨_, rfl, rfl, _, rfl, iteFd (by decide +kernel) ?_⟩⟩
    refine ⟨_, rfl, rfl, _, rfl, iteFd (by decide +kernel) ⟨_, rfl, rfl, _, rfl, iteFd (by decide +kernel) ?_⟩⟩
    refine ⟨_, rfl, rfl, _, rfl, iteTd rfl ?_⟩
    refine ⟨_, rfl, _, _, rfl, t, d, c, 13, rfl, rfl, TA, by decide, by decide, fun v1 H1 T1 k1 hx => ?_⟩
    obtain ⟨x1, rfl, x1a, x1b⟩ := hx
    refine ⟨_, _, rfl, rfl, _, rfl, _, rfl, _, rfl, _, _, rfl, rfl, _, _, rfl, t, d, c, 2 + x1 - 1, rfl, rfl, T1, by omega, by omega, fun v2 H2 T2 k2 hx => ?_⟩
    obtain ⟨x2, rfl, x2a, x2b⟩ := hx
    refine ⟨_, _, rfl, rfl, by show 2 ≤ sizeLine; decide, fun p1 hp1 => ⟨by show 2 ≤ sizeLine; decide, fun p2 hp2 => ?_⟩⟩
    refine ⟨_, rfl, _, rfl, _, _, rfl, rfl, by show 2 ≤ sizeLine; decide, fun p3 hp3 => ⟨by show 4 ≤ sizeLine; decide, fun p4 hp4 => ?_⟩⟩
    have s2 := (((snewR (o := .tup [.int (2 + x1), .int (1 + x2)]) hp1).trans (snewR (o := .tup [.int 2, .int 1]) hp2)).trans (snewR (o := .tup [.int (2 + x1), .int (2 + x1 - 1)]) hp3)).trans (snewR (o := .lst [.non, .ref p1, .ref p2, .ref p3]) hp4)
    have T3 := T2.mono s2
    obtain ⟨n1, n2, n3⟩ := ((T2.mono (((snewR (o := .tup [.int (2 + x1), .int (1 + x2)]) hp1).trans (snewR (o := .tup [.int 2, .int 1]) hp2)).trans (snewR (o := .tup [.int (2 + x1), .int (2 + x1 - 1)]) hp3)))).fresh hp4
    refine ⟨_, rfl, _, _, rfl, t, d, c, 4, rfl, rfl, T3, by decide, by decide, fun v4 H4 T4 k4 hx => ?_⟩
    obtain ⟨x4, rfl, x4a, x4b⟩ := hx
    have hl4 := k4 p4 _ upd_same n1 n2
    have kt4 := k4.kt T3
    have n14 : p1 ≠ p2 := ne_of_none upd_same hp2
    have hp1' : (upd (upd H2 p1 (.tup [.int (2 + x1), .int (1 + x2)])) p2 (.tup [.int 2, .int 1])) p1 = some (.tup [.int (2 + x1), .int (1 + x2)]) := by rw [upd_ne n14, upd_same]
    have g1 : H4 p1 = some (.tup [.int (2 + x1), .int (1 + x2)]) := kt4 _ _ ((snewR (o := .lst [.non, .ref p1, .ref p2, .ref p3]) hp4) _ _ ((snewR (o := .tup [.int (2 + x1), .int (2 + x1 - 1)]) hp3) _ _ hp1'))
    have g2 : H4 p2 = some (.tup [.int 2, .int 1]) := kt4 _ _ ((snewR (o := .lst [.non, .ref p1, .ref p2, .ref p3]) hp4) _ _ ((snewR (o := .tup [.int (2 + x1), .int (2 + x1 - 1)]) hp3) _ _ upd_same))
    have g3 : H4 p3 = some (.tup [.int (2 + x1), .int (2 + x1 - 1)]) := kt4 _ _ ((snewR (o := .lst [.non, .ref p1, .ref p2, .ref p3]) hp4) _ _ upd_same)
    have hm : ∀ z ∈ [V.non, V.ref p1, V.ref p2, V.ref p3], ∃ wo, WoAt H4 z wo ∧ WoOk .deal wo := by
      intro z hz
      simp only [List.mem_cons, List.not_mem_nil, or_false] at hz
      rcases hz with rfl | rfl | rfl | rfl
      · exact ⟨.non, .non, trivial⟩
      · exact ⟨_, .two g1, by show 1 ≤ 2 + x1; omega, by omega, by omega, by omega⟩
      · exact ⟨_, .two g2, by decide, by decide, by decide, by decide⟩
      · exact ⟨_, .two g3, by show 1 ≤ 2 + x1; omega, by omega, by omega, by omega⟩
    obtain ⟨z, hz1, hz2⟩ := at_in (xs := [V.non, V.ref p1, V.ref p2, V.ref p3]) x4a (by show x4 < 4; omega)
    exact ⟨p4, _, _, z, rfl, rfl, SqL.of hl4, hz1, k z H4 T4 (((k1.trans k2).trans (KpT.of s2)).trans k4) (hm z hz2)⟩
  | fee =>
    refine ⟨_, rfl, rfl, _, rfl, iteFd (by decide +kernel) ⟨_, rfl, rfl, _, rfl, iteFd (by decide +kernel) ?_⟩⟩
    refine ⟨_, rfl, rfl, _, rfl, iteFd (by decide +kernel) ⟨_, rfl, rfl, _, rfl, iteFd (by decide +kernel) ?_⟩⟩
    refine ⟨_, rfl, rfl, _, rfl, iteFd (by decide +kernel) ?_⟩
    refine ⟨_, rfl, _, rfl, t, d, c, rfl, TA, fun v1 H1 T1 k1 hx => ?_⟩
    obtain ⟨x1, rfl, x1a, x1b⟩ := hx
    exact k _ H1 T1 k1 ⟨.int _, .int _, x1a, x1b⟩

end
end Stp
namespace Stp
open PySem PySem.Spec PyProof.Rows L2
section
variable {P : Program} {w : World} {K : PySem.W.Frag} {mg : Str → Option Value} {base : Heap}

theorem KpT.free {t d c : Addr} {H H1 : Hp} (k : KpT t d H H1) (T : TpAt H1 t d c) {p : Addr} (h : H1 p = none) : H p = none := by
  obtain ⟨n1, n2, _⟩ := T.fresh h
  cases e : H p with
  | none => rfl
  | some o =>
    have := k p o e n1 n2
    rw [h] at this
    cases this

theorem sc_law_price_rules : FnScope ["_law_tape_here", "_law_base", "_law_days", "_law_found", "_law_k", "_law_first", "_law_worth_here"] ["_law_tape_here", "_law_base", "_law_days"] (defScope sLawPriceRules) := ⟨rfl, rfl, rfl, by decide +kernel, rfl, by decide +kernel, by decide +kernel⟩

def sp_law_price_rules : Sp := sp3 fun a bv nv H Q => ∃ t d c b n, a = .ref t ∧ bv = .int b ∧ nv = .int n ∧ TpAt H t d c ∧ 0 ≤ b ∧ b ≤ 999980 ∧ 2 ≤ n ∧ n ≤ 8 ∧ ∀ q rs H', TpAt H' t d c → KpT t d H H' → H q = none → RL H' q rs → rs.length ≤ 5 → Q (.ref q) H'
theorem has_law_price_rules (T : Tx K mg) : Has P w K mg base "_law_price_rules" 3 ["_law_tape_here", "_law_base", "_law_days"] (sp_law_price_rules) := by
  have g_law_draw := has_law_draw (P := P) (w := w) (base := base) T
  have g_law_coins := has_law_coins (P := P) (w := w) (base := base) T
  have g_nd := sc_law_price_rules.nd
  refine T.d_law_price_rules.has sc_law_price_rules (fun _ _ _ _ _ _ us hl => match us, hl with | [_, _, _], _ => rfl) sp3_len (fun cdv A outer s H vs Q E hr h => ?_)
  obtain ⟨a0, a1, a2, rfl, h⟩ := h
  obtain ⟨t, d, c, b, n, rfl, rfl, rfl, TA, hb0, hb1, hn0, hn1, k⟩ := h
  refine ⟨_, (pss_cons (ps_set (i := 3) g_nd rfl (by first | exact Or.inl rfl | exact Or.inr rfl) (pe_lst (pa_cons (pe_tup (pa_cons pe_str (pa_cons (pv 1) (pa_cons (pe_op op_add (pv 1) (pv 2)) (pa_cons (pcall g_law_coins (hr.mono (by decide)) (by rfl) (pa_cons (pv 0) pa_nil)) pa_nil))))) pa_nil)))
        (pss_cons (ps_for PassesOwn.never rfl (pi_range1 (by rfl) T.b_range (pa_cons (pcall g_law_draw (hr.mono (by decide)) (by rfl) (pa_cons (pv 0) (pa_cons pe_int pa_nil))) pa_nil)) (pg_name (i := 4) g_nd rfl (by first | exact Or.inl rfl | exact Or.inr rfl)) (pss_cons (ps_set (i := 5) g_nd rfl (by first | exact Or.inl rfl | exact Or.inr rfl) (pe_op op_add (pv 1) (pcall g_law_draw (hr.mono (by decide)) (by rfl) (pa_cons (pv 0) (pa_cons (pv 2) pa_nil)))))
        (pss_cons (ps_set (i := 6) g_nd rfl (by first | exact Or.inl rfl | exact Or.inr rfl) (pe_ix (r := rIxL K) ix_list (pe_lst (pa_cons pe_non (pa_cons (pcall g_law_coins (hr.mono (by decide)) (by rfl) (pa_cons (pv 0) pa_nil)) (pa_cons (pcall g_law_coins (hr.mono (by decide)) (by rfl) (pa_cons (pv 0) pa_nil)) (pa_cons (pcall g_law_coins (hr.mono (by decide)) (by rfl) (pa_cons (pv 0) pa_nil)) pa_nil))))) (pcall g_law_draw (hr.mono (by decide)) (by rfl) (pa_cons (pv 0) (pa_cons pe_int pa_nil))) (fun _ _ => rfl)))
        (pss_one (ps_expr (pe_bm PySem.F.plainAttrs_list PySem.F.slot_list_append PySem.F.type_list_append mt_append (pv 3) (pa_cons (pe_tup (pa_cons pe_str (pa_cons (pv 5) (pa_cons (pe_op op_add (pv 5) (pcall g_law_draw (hr.mono (by decide)) (by rfl) (pa_cons (pv 0) (pa_cons pe_int pa_nil)))) (pa_cons (pv 6) pa_nil))))) pa_nil)))))))
        (pss_one (ps_ret (pv 3))))), ?_⟩
  refine ⟨_, rfl, _, rfl, _, rfl, _, _, rfl, rfl, _, rfl, _, rfl, t, d, c, rfl, TA, fun v1 H1 T1 k1 hx => ?_⟩
  obtain ⟨x1, rfl, x1a, x1b⟩ := hx
  refine ⟨by show 4 ≤ sizeLine; decide, fun p hp => ⟨by show 1 ≤ sizeLine; decide, fun F hF => ?_⟩⟩
  have sp1 : Same H1 (upd H1 p (.tup [.str "price", .int b, .int (b + n), .int x1])) := snewR hp
  have T2 := T1.mono sp1
  have k2 : KpT t d H (upd H1 p (.tup [.str "price", .int b, .int (b + n), .int x1])) := k1.trans (KpT.of sp1)
  have hF0 : H F = none := k2.free T2 hF
  obtain ⟨nF1, nF2, nF3⟩ := T2.fresh hF
  have R0 : RL (upd (upd H1 p (.tup [.str "price", .int b, .int (b + n), .int x1])) F (.lst [.ref p])) F [⟨.price, b, b + n, .int x1⟩] :=
    RL.one hF ⟨p, .int x1, rfl, upd_same, .int _⟩ ⟨hb0, by show b ≤ b + n; omega, by show b + n ≤ 1000000; omega, x1a, x1b⟩
  have T3 := T2.other (o := .lst [.ref p]) nF1 nF2 nF3
  refine ⟨_, rfl, _, _, rfl, t, d, c, 5, rfl, rfl, T3, by decide, by decide, fun v4 H4 T4 k4 hx => ?_⟩
  obtain ⟨x4, rfl, x4a, x4b⟩ := hx
  refine ⟨x4, rfl, by omega, by omega, ?_⟩
  refine for_range (lo := 0) (n := x4.toNat) (fun i σ Hc => (∃ v4 v5 v6, σ = [some (.ref t), some (.int b), some (.int n), some (.ref F), v4, v5, v6]) ∧ TpAt Hc t d c ∧ KpT t d H Hc ∧ ∃ rs, RL Hc F rs ∧ rs.length ≤ i + 1)
    ⟨⟨none, none, none, rfl⟩, T4, (k2.new hF0).trans k4, _, R0.kp T3 k4 nF1 nF2, Nat.le_refl _⟩ ?_ ?_
  · rintro i σ Hc hi ⟨⟨v4, v5, v6, rfl⟩, T5, k5, rs, RF, hrl⟩
    refine ⟨_, rfl, _, rfl, _, rfl, _, _, rfl, t, d, c, n, rfl, rfl, T5, by omega, by omega, fun w1 G1 S1 j1 hx => ?_⟩
    obtain ⟨y1, rfl, y1a, y1b⟩ := hx
    refine ⟨_, _, rfl, rfl, ?_⟩
    refine ⟨_, rfl, _, rfl, t, d, c, rfl, S1, fun w2 G2 S2 j2 hx => ?_⟩
    obtain ⟨y2, rfl, y2a, y2b⟩ := hx
    refine ⟨_, rfl, _, rfl, t, d, c, rfl, S2, fun w3 G3 S3 j3 hx => ?_⟩
    obtain ⟨y3, rfl, y3a, y3b⟩ := hx
    refine ⟨_, rfl, _, rfl, t, d, c, rfl, S3, fun w4 G4 S4 j4 hx => ?_⟩
    obtain ⟨y4, rfl, y4a, y4b⟩ := hx
    refine ⟨by show 4 ≤ sizeLine; decide, fun L hL => ?_⟩
    obtain ⟨nL1, nL2, nL3⟩ := S4.fresh hL
    refine ⟨_, rfl, _, _, rfl, t, d, c, 4, rfl, rfl, (S4.other nL1 nL2 nL3), by decide, by decide, fun w5 G5 S5 j5 hx => ?_⟩
    obtain ⟨y5, rfl, y5a, y5b⟩ := hx
    have hL5 := j5 L _ upd_same nL1 nL2
    have hm : ∀ z ∈ [V.non, V.int y2, V.int y3, V.int y4], ∃ wo, WoOk .price wo ∧ ∀ Hx, WoAt Hx z wo := by
      intro z hz
      simp only [List.mem_cons, List.not_mem_nil, or_false] at hz
      rcases hz with rfl | rfl | rfl | rfl
      · exact ⟨.non, trivial, fun _ => .non⟩
      · exact ⟨.int y2, ⟨y2a, y2b⟩, fun _ => .int _⟩
      · exact ⟨.int y3, ⟨y3a, y3b⟩, fun _ => .int _⟩
      · exact ⟨.int y4, ⟨y4a, y4b⟩, fun _ => .int _⟩
    obtain ⟨z, hz1, hz2⟩ := at_in (xs := [V.non, V.int y2, V.int y3, V.int y4]) y5a (by show y5 < 4; omega)
    obtain ⟨wo, hwo, hwa⟩ := hm z hz2
    refine ⟨L, _, _, z, rfl, rfl, SqL.of hL5, hz1, ?_⟩
    have j15 : KpT t d Hc G5 := ((((j1.trans j2).trans j3).trans j4).trans (KpT.of (snewR hL))).trans j5
    have RF5 := RF.kp T5 j15 nF1 nF2
    obtain ⟨vs, hv1, hv2, hv3⟩ := RF5
    refine ⟨_, rfl, .inl ⟨rfl, _, SqL.of hv1⟩, _, rfl, _, rfl, ?_⟩
    refine ⟨_, rfl, _, _, rfl, t, d, c, 4, rfl, rfl, S5, by decide, by decide, fun w6 G6 S6 j6 hx => ?_⟩
    obtain ⟨y6, rfl, y6a, y6b⟩ := hx
    refine ⟨_, _, rfl, rfl, _, rfl, by show 4 ≤ sizeLine; decide, fun p2 hp2 => ?_⟩
    obtain ⟨vs6, hw1, hw2, hw3⟩ := RL.kp ⟨vs, hv1, hv2, hv3⟩ S5 j6 nF1 nF2
    have s7 : Same G6 (upd G6 p2 (.tup [.str "price", .int (b + y1), .int (b + y1 + y6), z])) := snewR hp2
    have e67 : vs6 = vs := by
      have := j6 F _ hv1 nF1 nF2
      rw [hw1] at this
      cases this
      rfl
    subst e67
    refine ⟨F, _, _, rfl, rfl, s7 _ _ hw1, small15 (by rw [hw2.length]; omega), ?_⟩
    have S7 := S6.mono s7
    have k7 : KpT t d H (upd G6 p2 (.tup [.str "price", .int (b + y1), .int (b + y1 + y6), z])) := ((k5.trans j15).trans j6).trans (KpT.of s7)
    refine ⟨⟨_, _, _, rfl⟩, S7.other nF1 nF2 nF3, k7.new hF0, _, RL.app (r := ⟨.price, b + y1, b + y1 + y6, wo⟩) (s7 _ _ hw1) (hw2.mono fun _ _ => TuAt.kt (KT.of s7)) hw3 ⟨p2, z, rfl, upd_same, hwa _⟩ ⟨by show 0 ≤ b + y1; omega, by show b + y1 ≤ b + y1 + y6; omega, by show b + y1 + y6 ≤ 1000000; omega, hwo⟩, by rw [List.length_append]; exact Nat.succ_le_succ hrl⟩
  · rintro σ Hc ⟨⟨v4, v5, v6, rfl⟩, T5, k5, rs, RF, hrl⟩
    exact ⟨_, rfl, k F rs Hc T5 k5 hF0 RF (by omega)⟩

theorem sc_law_other_rules : FnScope ["_law_tape_here", "_law_base", "_law_days", "_law_found", "_law_k", "_law_word", "_law_first"] ["_law_tape_here", "_law_base", "_law_days"] (defScope sLawOtherRules) := ⟨rfl, rfl, rfl, by decide +kernel, rfl, by decide +kernel, by decide +kernel⟩

def sp_law_other_rules : Sp := sp3 fun a bv nv H Q => ∃ t d c b n, a = .ref t ∧ bv = .int b ∧ nv = .int n ∧ TpAt H t d c ∧ 0 ≤ b ∧ b ≤ 999980 ∧ 2 ≤ n ∧ n ≤ 8 ∧ ∀ q rs H', TpAt H' t d c → KpT t d H H' → H q = none → RL H' q rs → rs.length ≤ 5 → Q (.ref q) H'
theorem has_law_other_rules (T : Tx K mg) : Has P w K mg base "_law_other_rules" 4 ["_law_tape_here", "_law_base", "_law_days"] (sp_law_other_rules) := by
  have g_law_draw := has_law_draw (P := P) (w := w) (base := base) T
  have g_law_worth := has_law_worth (P := P) (w := w) (base := base) T
  have g_nd := sc_law_other_rules.nd
  refine T.d_law_other_rules.has sc_law_other_rules (fun _ _ _ _ _ _ us hl => match us, hl with | [_, _, _], _ => rfl) sp3_len (fun cdv A outer s H vs Q E hr h => ?_)
  obtain ⟨a0, a1, a2, rfl, h⟩ := h
  obtain ⟨t, d, c, b, n, rfl, rfl, rfl, TA, hb0, hb1, hn0, hn1, k⟩ := h
  refine ⟨_, (pss_cons (ps_set (i := 3) g_nd rfl (by first | exact Or.inl rfl | exact Or.inr rfl) (pe_lst pa_nil))
        (pss_cons (ps_for PassesOwn.never rfl (pi_range1 (by rfl) T.b_range (pa_cons (pcall g_law_draw (hr.mono (by decide)) (by rfl) (pa_cons (pv 0) (pa_cons pe_int pa_nil))) pa_nil)) (pg_name (i := 4) g_nd rfl (by first | exact Or.inl rfl | exact Or.inr rfl)) (pss_cons (ps_set (i := 5) g_nd rfl (by first | exact Or.inl rfl | exact Or.inr rfl) (pe_ix (r := rIxL K) ix_list (pe_lst (pa_cons pe_str (pa_cons pe_str (pa_cons pe_str (pa_cons pe_str (pa_cons pe_str (pa_cons pe_str pa_nil))))))) (pcall g_law_draw (hr.mono (by decide)) (by rfl) (pa_cons (pv 0) (pa_cons pe_int pa_nil))) (fun _ _ => rfl)))
        (pss_cons (ps_set (i := 6) g_nd rfl (by first | exact Or.inl rfl | exact Or.inr rfl) (pe_op op_add (pv 1) (pcall g_law_draw (hr.mono (by decide)) (by rfl) (pa_cons (pv 0) (pa_cons (pv 2) pa_nil)))))
        (pss_one (ps_expr (pe_bm PySem.F.plainAttrs_list PySem.F.slot_list_append PySem.F.type_list_append mt_append (pv 3) (pa_cons (pe_tup (pa_cons (pv 5) (pa_cons (pv 6) (pa_cons (pe_op op_add (pv 6) (pcall g_law_draw (hr.mono (by decide)) (by rfl) (pa_cons (pv 0) (pa_cons pe_int pa_nil)))) (pa_cons (pcall g_law_worth (hr.mono (by decide)) (by rfl) (pa_cons (pv 0) (pa_cons (pv 5) pa_nil))) pa_nil))))) pa_nil)))))))
        (pss_one (ps_ret (pv 3))))), ?_⟩
  refine ⟨Nat.zero_le _, fun F hF => ?_⟩
  obtain ⟨nF1, nF2, nF3⟩ := TA.fresh hF
  have T3 := TA.other (o := .lst []) nF1 nF2 nF3
  refine ⟨_, rfl, _, _, rfl, t, d, c, 6, rfl, rfl, T3, by decide, by decide, fun v4 H4 T4 k4 hx => ?_⟩
  obtain ⟨x4, rfl, x4a, x4b⟩ := hx
  refine ⟨x4, rfl, by omega, by omega, ?_⟩
  refine for_range (lo := 0) (n := x4.toNat) (fun i σ Hc => (∃ v4 v5 v6, σ = [some (.ref t), some (.int b), some (.int n), some (.ref F), v4, v5, v6]) ∧ TpAt Hc t d c ∧ KpT t d H Hc ∧ ∃ rs, RL Hc F rs ∧ rs.length ≤ i)
    ⟨⟨none, none, none, rfl⟩, T4, (KpT.of (snewR hF)).trans k4, _, (RL.nil).kp T3 k4 nF1 nF2, Nat.le_refl _⟩ ?_ ?_
  · rintro i σ Hc hi ⟨⟨v4, v5, v6, rfl⟩, T5, k5, rs, RF, hrl⟩
    refine ⟨by show 6 ≤ sizeLine; decide, fun L hL => ?_⟩
    obtain ⟨nL1, nL2, nL3⟩ := T5.fresh hL
    refine ⟨_, rfl, _, _, rfl, t, d, c, 6, rfl, rfl, (T5.other nL1 nL2 nL3), by decide, by decide, fun w5 G5 S5 j5 hx => ?_⟩
    obtain ⟨y5, rfl, y5a, y5b⟩ := hx
    have hL5 := j5 L _ upd_same nL1 nL2
    have hm : ∀ z ∈ [V.str "come", V.str "go", V.str "least", V.str "most", V.str "deal", V.str "fee"], ∃ wd : Wd, wd ≠ .price ∧ z = .str wd.s := by
      intro z hz
      simp only [List.mem_cons, List.not_mem_nil, or_false] at hz
      rcases hz with rfl | rfl | rfl | rfl | rfl | rfl
      · exact ⟨.come, (fun e => by cases e), rfl⟩
      · exact ⟨.go, (fun e => by cases e), rfl⟩
      · exact ⟨.least, (fun e => by cases e), rfl⟩
      · exact ⟨.most, (fun e => by cases e), rfl⟩
      · exact ⟨.deal, (fun e => by cases e), rfl⟩
      · exact ⟨.fee, (fun e => by cases e), rfl⟩
    obtain ⟨z, hz1, hz2⟩ := at_in (xs := [V.str "come", V.str "go", V.str "least", V.str "most", V.str "deal", V.str "fee"]) y5a (by show y5 < 6; omega)
    obtain ⟨wd, hwd, rfl⟩ := hm z hz2
    refine ⟨L, _, _, _, rfl, rfl, SqL.of hL5, hz1, ?_⟩
    have j05 : KpT t d Hc G5 := (KpT.of (snewR hL)).trans j5
    refine ⟨_, rfl, _, rfl, _, rfl, _, _, rfl, t, d, c, n, rfl, rfl, S5, by omega, by omega, fun w1 G1 S1 j1 hx => ?_⟩
    obtain ⟨y1, rfl, y1a, y1b⟩ := hx
    refine ⟨_, _, rfl, rfl, ?_⟩
    have j01 := j05.trans j1
    obtain ⟨vs, hv1, hv2, hv3⟩ := RF.kp T5 j01 nF1 nF2
    refine ⟨_, rfl, .inl ⟨rfl, _, SqL.of hv1⟩, _, rfl, _, rfl, _, rfl, ?_⟩
    refine ⟨_, rfl, _, _, rfl, t, d, c, 6, rfl, rfl, S1, by decide, by decide, fun w6 G6 S6 j6 hx => ?_⟩
    obtain ⟨y6, rfl, y6a, y6b⟩ := hx
    refine ⟨_, _, rfl, rfl, _, rfl, _, rfl, _, _, rfl, t, d, c, wd, rfl, rfl, hwd, S6, fun w7 G7 S7 j7 hx => ?_⟩
    obtain ⟨wo, hwa, hwo⟩ := hx
    refine ⟨by show 4 ≤ sizeLine; decide, fun p2 hp2 => ?_⟩
    have j67 := j6.trans j7
    obtain ⟨vs6, hw1, hw2, hw3⟩ := RL.kp ⟨vs, hv1, hv2, hv3⟩ S1 j67 nF1 nF2
    have s7 : Same G7 (upd G7 p2 (.tup [.str wd.s, .int (b + y1), .int (b + y1 + y6), w7])) := snewR hp2
    have e67 : vs6 = vs := by
      have := j67 F _ hv1 nF1 nF2
      rw [hw1] at this
      cases this
      rfl
    subst e67
    refine ⟨F, _, _, rfl, rfl, s7 _ _ hw1, small15 (by rw [hw2.length]; omega), ?_⟩
    have S8 := S7.mono s7
    have k7 : KpT t d H (upd G7 p2 (.tup [.str wd.s, .int (b + y1), .int (b + y1 + y6), w7])) := ((k5.trans j01).trans j67).trans (KpT.of s7)
    refine ⟨⟨_, _, _, rfl⟩, S8.other nF1 nF2 nF3, k7.new hF, _, RL.app (r := ⟨wd, b + y1, b + y1 + y6, wo⟩) (s7 _ _ hw1) (hw2.mono fun _ _ => TuAt.kt (KT.of s7)) hw3 ⟨p2, w7, rfl, upd_same, hwa.mono s7⟩ ⟨by show 0 ≤ b + y1; omega, by show b + y1 ≤ b + y1 + y6; omega, by show b + y1 + y6 ≤ 1000000; omega, hwo⟩, by rw [List.length_append]; exact Nat.succ_le_succ hrl⟩
  · rintro σ Hc ⟨⟨v4, v5, v6, rfl⟩, T5, k5, rs, RF, hrl⟩
    exact ⟨_, rfl, k F rs Hc T5 k5 hF RF (by omega)⟩

theorem sc_law_rules : FnScope ["_law_tape_here", "_law_base", "_law_days", "_law_ones", "_law_others"] ["_law_tape_here", "_law_base", "_law_days"] (defScope sLawRules) := ⟨rfl, rfl, rfl, by decide +kernel, rfl, by decide +kernel, by decide +kernel⟩

def sp_law_rules : Sp := sp3 fun a bv nv H Q => ∃ t d c b n, a = .ref t ∧ bv = .int b ∧ nv = .int n ∧ TpAt H t d c ∧ 0 ≤ b ∧ b ≤ 999980 ∧ 2 ≤ n ∧ n ≤ 8 ∧ ∀ q rs H', TpAt H' t d c → KpT t d H H' → H q = none → RL H' q rs → rs.length ≤ 10 → Q (.ref q) H'
theorem has_law_rules (T : Tx K mg) : Has P w K mg base "_law_rules" 5 ["_law_tape_here", "_law_base", "_law_days"] (sp_law_rules) := by
  have g_law_price_rules := has_law_price_rules (P := P) (w := w) (base := base) T
  have g_law_other_rules := has_law_other_rules (P := P) (w := w) (base := base) T
  have g_law_draw := has_law_draw (P := P) (w := w) (base := base) T
  have g_nd := sc_law_rules.nd
  refine T.d_law_rules.has sc_law_rules (fun _ _ _ _ _ _ us hl => match us, hl with | [_, _, _], _ => rfl) sp3_len (fun cdv A outer s H vs Q E hr h => ?_)
  obtain ⟨a0, a1, a2, rfl, h⟩ := h
  obtain ⟨t, d, c, b, n, rfl, rfl, rfl, TA, hb0, hb1, hn0, hn1, k⟩ := h
  refine ⟨_, (pss_cons (ps_set (i := 3) g_nd rfl (by first | exact Or.inl rfl | exact Or.inr rfl) (pcall g_law_price_rules (hr.mono (by decide)) (by rfl) (pa_cons (pv 0) (pa_cons (pv 1) (pa_cons (pv 2) pa_nil)))))
        (pss_cons (ps_set (i := 4) g_nd rfl (by first | exact Or.inl rfl | exact Or.inr rfl) (pcall g_law_other_rules (hr.mono (by decide)) (by rfl) (pa_cons (pv 0) (pa_cons (pv 1) (pa_cons (pv 2) pa_nil)))))
        (pss_one (ps_ret (pe_ix (r := rIxL K) ix_list (pe_lst (pa_cons (pe_op op_cat (pv 3) (pv 4)) (pa_cons (pe_op op_cat (pv 4) (pv 3)) pa_nil))) (pcall g_law_draw (hr.mono (by decide)) (by rfl) (pa_cons (pv 0) (pa_cons pe_int pa_nil))) (fun _ _ => rfl)))))), ?_⟩
  refine ⟨_, rfl, _, rfl, _, rfl, _, _, _, rfl, t, d, c, b, n, rfl, rfl, rfl, TA, hb0, hb1, hn0, hn1, fun q1 rs1 H1 T1 k1 hq1 R1 l1 => ?_⟩
  refine ⟨_, rfl, _, rfl, _, rfl, _, _, _, rfl, t, d, c, b, n, rfl, rfl, rfl, T1, hb0, hb1, hn0, hn1, fun q2 rs2 H2 T2 k2 hq2 R2 l2 => ?_⟩
  obtain ⟨m1, m2, _⟩ := TA.fresh hq1
  obtain ⟨vs2, a1, a2, a3⟩ := R2
  obtain ⟨vs1, b1, b2, b3⟩ := R1.kp T1 k2 m1 m2
  have len1 : vs1.length + vs2.length ≤ sizeLine := by
    rw [b2.length, a2.length, sizeLine_eq]
    omega
  refine ⟨_, rfl, _, rfl, _, _, vs1, vs2, rfl, rfl, b1, a1, len1, fun p1 hp1 => ?_⟩
  have s1 : Same H2 (upd H2 p1 (.lst (vs1 ++ vs2))) := snewR hp1
  refine ⟨_, rfl, _, rfl, _, _, vs2, vs1, rfl, rfl, s1 _ _ a1, s1 _ _ b1, by omega, fun p2 hp2 => ?_⟩
  have s2 : Same H2 (upd (upd H2 p1 (.lst (vs1 ++ vs2))) p2 (.lst (vs2 ++ vs1))) := s1.trans (snewR hp2)
  refine ⟨by show 2 ≤ sizeLine; decide, fun L hL => ?_⟩
  have s3 : Same H2 (upd (upd (upd H2 p1 (.lst (vs1 ++ vs2))) p2 (.lst (vs2 ++ vs1))) L (.lst [.ref p1, .ref p2])) := s2.trans (snewR hL)
  have n12 : p1 ≠ p2 := ne_of_none upd_same hp2
  have c1 : (upd (upd (upd H2 p1 (.lst (vs1 ++ vs2))) p2 (.lst (vs2 ++ vs1))) L (.lst [.ref p1, .ref p2])) p1 = some (.lst (vs1 ++ vs2)) := (snewR hL) _ _ (by rw [upd_ne n12, upd_same])
  have c2 : (upd (upd (upd H2 p1 (.lst (vs1 ++ vs2))) p2 (.lst (vs2 ++ vs1))) L (.lst [.ref p1, .ref p2])) p2 = some (.lst (vs2 ++ vs1)) := (snewR hL) _ _ upd_same
  have T3 := T2.mono s3
  obtain ⟨nL1, nL2, nL3⟩ := (T2.mono s2).fresh hL
  refine ⟨_, rfl, _, _, rfl, t, d, c, 2, rfl, rfl, T3, by decide, by decide, fun v4 H4 T4 k4 hx => ?_⟩
  obtain ⟨x4, rfl, x4a, x4b⟩ := hx
  have hL4 := k4 L _ upd_same nL1 nL2
  have kt : KT H2 H4 := (KT.of s3).trans (k4.kt T3)
  have g1 := T2.fresh hp1
  have g2 := (T2.mono s1).fresh hp2
  have k12 := k1.trans k2
  have ok2 : ∀ r ∈ rs1 ++ rs2, r.Ok := fun r hr => (List.mem_append.mp hr).elim (b3 r) (a3 r)
  have hm : ∀ z ∈ [V.ref p1, V.ref p2], ∃ q rs, z = .ref q ∧ H q = none ∧ RL H4 q rs ∧ rs.length ≤ 10 := by
    intro z hz
    simp only [List.mem_cons, List.not_mem_nil, or_false] at hz
    rcases hz with rfl | rfl
    · exact ⟨p1, rs1 ++ rs2, rfl, k12.free T2 hp1, ⟨_, k4 p1 _ c1 g1.1 g1.2.1, (b2.mono fun _ _ => TuAt.kt kt).app (a2.mono fun _ _ => TuAt.kt kt), ok2⟩, by rw [List.length_append]; omega⟩
    · exact ⟨p2, rs2 ++ rs1, rfl, k12.free T2 (s1.free hp2), ⟨_, k4 p2 _ c2 g2.1 g2.2.1, (a2.mono fun _ _ => TuAt.kt kt).app (b2.mono fun _ _ => TuAt.kt kt), fun r hr => (List.mem_append.mp hr).elim (a3 r) (b3 r)⟩, by rw [List.length_append]; omega⟩
  obtain ⟨z, hz1, hz2⟩ := at_in (xs := [V.ref p1, V.ref p2]) x4a (by show x4 < 2; omega)
  obtain ⟨q, rs, rfl, hq, hR, hl⟩ := hm z hz2
  exact ⟨L, _, _, _, rfl, rfl, SqL.of hL4, hz1, k q rs H4 T4 ((k12.trans (KpT.of s3)).trans k4) hq hR hl⟩

theorem sc_law_stay : FnScope ["_law_tape_here", "_law_base", "_law_days", "_law_many", "_law_come"] ["_law_tape_here", "_law_base", "_law_days"] (defScope sLawStay) := ⟨rfl, rfl, rfl, by decide +kernel, rfl, by decide +kernel, by decide +kernel⟩

def sp_law_stay : Sp := sp3 fun a bv nv H Q => ∃ t d c b n, a = .ref t ∧ bv = .int b ∧ nv = .int n ∧ TpAt H t d c ∧ 0 ≤ b ∧ b ≤ 999980 ∧ 2 ≤ n ∧ n ≤ 8 ∧ ∀ q x y H', TpAt H' t d c → KpT t d H H' → H q = none → H' q = some (.tup [.int x, .int y]) → StOk x y → Q (.ref q) H'
theorem has_law_stay (T : Tx K mg) : Has P w K mg base "_law_stay" 2 ["_law_tape_here", "_law_base", "_law_days"] (sp_law_stay) := by
  have g_law_draw := has_law_draw (P := P) (w := w) (base := base) T
  have g_nd := sc_law_stay.nd
  refine T.d_law_stay.has sc_law_stay (fun _ _ _ _ _ _ us hl => match us, hl with | [_, _, _], _ => rfl) sp3_len (fun cdv A outer s H vs Q E hr h => ?_)
  obtain ⟨a0, a1, a2, rfl, h⟩ := h
  obtain ⟨t, d, c, b, n, rfl, rfl, rfl, TA, hb0, hb1, hn0, hn1, k⟩ := h
  refine ⟨_, (pss_cons (ps_set (i := 3) g_nd rfl (by first | exact Or.inl rfl | exact Or.inr rfl) (pe_op op_add pe_int (pcall g_law_draw (hr.mono (by decide)) (by rfl) (pa_cons (pv 0) (pa_cons (pv 2) pa_nil)))))
        (pss_cons (ps_set (i := 4) g_nd rfl (by first | exact Or.inl rfl | exact Or.inr rfl) (pe_op op_add (pv 1) (pcall g_law_draw (hr.mono (by decide)) (by rfl) (pa_cons (pv 0) (pa_cons (pe_op op_add (pe_op op_sub (pv 2) (pv 3)) pe_int) pa_nil)))))
        (pss_one (ps_ret (pe_tup (pa_cons (pv 4) (pa_cons (pe_op op_add (pv 4) (pv 3)) pa_nil))))))), ?_⟩
  refine ⟨_, rfl, _, rfl, _, _, rfl, t, d, c, n, rfl, rfl, TA, by omega, by omega, fun v1 H1 T1 k1 hx => ?_⟩
  obtain ⟨x1, rfl, x1a, x1b⟩ := hx
  refine ⟨_, _, rfl, rfl, ?_⟩
  refine ⟨_, rfl, _, rfl, _, rfl, _, rfl, _, _, rfl, rfl, _, _, rfl, rfl, _, _, rfl, t, d, c, n - (1 + x1) + 1, rfl, rfl, T1, by omega, by omega, fun v2 H2 T2 k2 hx => ?_⟩
  obtain ⟨x2, rfl, x2a, x2b⟩ := hx
  refine ⟨_, _, rfl, rfl, ?_⟩
  refine ⟨_, rfl, _, rfl, _, rfl, _, _, rfl, rfl, by show 2 ≤ sizeLine; decide, fun q hq => ?_⟩
  have k12 := k1.trans k2
  exact k q _ _ _ (T2.mono (snewR hq)) (k12.trans (KpT.of (snewR hq))) (k12.free T2 hq) upd_same ⟨by omega, by omega, by omega, by omega⟩

end
end Stp
namespace Stp
open PySem PySem.Spec PyProof.Rows L2
section
variable {P : Program} {w : World} {K : PySem.W.Frag} {mg : Str → Option Value} {base : Heap}

/-- the tape's own addresses -/
def offT (t d : Addr) : Addr → Bool := fun a => decide (a = t) || decide (a = d)
theorem offT_no {t d a : Addr} (h1 : a ≠ t) (h2 : a ≠ d) : offT t d a = false := by
  unfold offT
  rw [decide_eq_false h1, decide_eq_false h2]
  rfl
theorem offT_yes {t d a : Addr} (h : offT t d a = true) : a = t ∨ a = d := by
  unfold offT at h
  rw [Bool.or_eq_true, decide_eq_true_eq, decide_eq_true_eq] at h
  exact h
theorem offT_keep {t d : Addr} {H H' : Hp} (k : KpT t d H H') : Same (mask (offT t d) H) (mask (offT t d) H') := mask_same fun a o h e => by
  refine k a o e (fun z => ?_) (fun z => ?_)
  · rw [z] at h
    unfold offT at h
    simp at h
  · rw [z] at h
    unfold offT at h
    simp at h
def off3 (t d F : Addr) : Addr → Bool := fun a => offT t d a || decide (a = F)
theorem off3_yes {t d F a : Addr} (h : off3 t d F a = true) : a = t ∨ a = d ∨ a = F := by
  unfold off3 at h
  rw [Bool.or_eq_true, decide_eq_true_eq] at h
  rcases h with h | h
  · rcases offT_yes h with h | h
    · exact .inl h
    · exact .inr (.inl h)
  · exact .inr (.inr h)
theorem off3_ne {t d F a : Addr} (h : off3 t d F a = false) : a ≠ t ∧ a ≠ d ∧ a ≠ F := by
  unfold off3 offT at h
  simp only [Bool.or_eq_false_iff, decide_eq_false_iff_not] at h
  exact ⟨h.1.1, h.1.2, h.2⟩
theorem cut_n (xs : List V) (n : Nat) : cutV xs none (some (n : Int)) = xs.take n := by
  unfold cutV
  rw [HT.sIx_none, HT.sIx_nat, List.drop_zero, Nat.sub_zero]
  by_cases h : n ≤ xs.length
  · rw [Nat.min_eq_left h]
  · rw [Nat.min_eq_right (by omega), List.take_of_length_le (Nat.le_refl _), List.take_of_length_le (by omega)]

theorem sc_law_books : FnScope ["_law_tape_here", "_law_base", "_law_days", "_law_found", "_law_k"] ["_law_tape_here", "_law_base", "_law_days"] (defScope sLawBooks) := ⟨rfl, rfl, rfl, by decide +kernel, rfl, by decide +kernel, by decide +kernel⟩

def sp_law_books (K : PySem.W.Frag) : Sp := sp3 fun a bv nv H Q => ∃ t d c b n, a = .ref t ∧ bv = .int b ∧ nv = .int n ∧ TpAt H t d c ∧ 0 ≤ b ∧ b ≤ 999980 ∧ 2 ≤ n ∧ n ≤ 8 ∧ ∀ q rss H', TpAt H' t d c → KpT t d H H' → H q = none → BksAt K (mask (offT t d) H') q rss → rss.length ≤ 4 → (∀ rs ∈ rss, rs.length ≤ 24) → Q (.ref q) H'
theorem has_law_books (T : Tx K mg) : Has P w K mg base "_law_books" 8 ["_law_tape_here", "_law_base", "_law_days"] (sp_law_books K) := by
  have g_law_draw := has_law_draw (P := P) (w := w) (base := base) T
  have g_law_rules := has_law_rules (P := P) (w := w) (base := base) T
  have c_Book := has_Book (P := P) (w := w) (base := base) T
  have g_nd := sc_law_books.nd
  refine T.d_law_books.has sc_law_books (fun _ _ _ _ _ _ us hl => match us, hl with | [_, _, _], _ => rfl) sp3_len (fun cdv A outer s H vs Q E hr h => ?_)
  obtain ⟨a0, a1, a2, rfl, h⟩ := h
  obtain ⟨t, d, c, b, n, rfl, rfl, rfl, TA, hb0, hb1, hn0, hn1, k⟩ := h
  refine ⟨_, (pss_cons (ps_set (i := 3) g_nd rfl (by first | exact Or.inl rfl | exact Or.inr rfl) (pe_lst pa_nil))
        (pss_cons (ps_for PassesOwn.never rfl (pi_range1 (by rfl) T.b_range (pa_cons (pe_op op_add pe_int (pcall g_law_draw (hr.mono (by decide)) (by rfl) (pa_cons (pv 0) (pa_cons pe_int pa_nil)))) pa_nil)) (pg_name (i := 4) g_nd rfl (by first | exact Or.inl rfl | exact Or.inr rfl)) (pss_one (ps_expr (pe_bm PySem.F.plainAttrs_list PySem.F.slot_list_append PySem.F.type_list_append mt_append (pv 3) (pa_cons (pmake c_Book (hr.mono (by decide)) (by rfl) (pa_cons (pe_slice sl_list (pcall g_law_rules (hr.mono (by decide)) (by rfl) (pa_cons (pv 0) (pa_cons (pv 1) (pa_cons (pv 2) pa_nil)))) po_none (po_some (pe_ix (r := rIxL K) ix_list (pe_lst (pa_cons pe_int (pa_cons pe_int pa_nil))) (pcall g_law_draw (hr.mono (by decide)) (by rfl) (pa_cons (pv 0) (pa_cons pe_int pa_nil))) (fun _ _ => rfl)))) pa_nil)) pa_nil)))))
        (pss_one (ps_ret (pv 3))))), ?_⟩
  refine ⟨Nat.zero_le _, fun F hF => ?_⟩
  obtain ⟨nF1, nF2, nF3⟩ := TA.fresh hF
  have T3 := TA.other (o := .lst []) nF1 nF2 nF3
  refine ⟨_, rfl, _, _, rfl, t, d, c, 4, rfl, rfl, T3, by decide, by decide, fun v4 H4 T4 k4 hx => ?_⟩
  obtain ⟨x4, rfl, x4a, x4b⟩ := hx
  refine ⟨_, _, rfl, rfl, 1 + x4, rfl, by omega, by omega, ?_⟩
  refine for_range (lo := 0) (n := (1 + x4).toNat) (fun i σ Hc => (∃ v4, σ = [some (.ref t), some (.int b), some (.int n), some (.ref F), v4]) ∧ TpAt Hc t d c ∧ KpT t d H Hc ∧ ∃ (bs : List Addr) (rss : List (List Rl)), Hc F = some (.lst (bs.map V.ref)) ∧ All2 (BkAt K (mask (off3 t d F) Hc)) bs rss ∧ rss.length ≤ i ∧ ∀ rs ∈ rss, rs.length ≤ 24)
    ⟨⟨none, rfl⟩, T4, (KpT.of (snewR hF)).trans k4, [], [], k4 F _ upd_same nF1 nF2, .nil, Nat.le_refl _, fun rs h => (by cases h)⟩ ?_ ?_
  · rintro i σ Hc hi ⟨⟨v4, rfl⟩, T5, k5, bs, rss, hFc, hbk, hrl, h24⟩
    refine ⟨_, rfl, .inl ⟨rfl, _, SqL.of hFc⟩, ?_⟩
    refine ⟨_, rfl, _, rfl, _, rfl, _, _, _, rfl, t, d, c, b, n, rfl, rfl, rfl, T5, hb0, hb1, hn0, hn1, fun q rs H6 T6 k6 hq hR hl10 => ?_⟩
    obtain ⟨vs, hv1, hv2, hv3⟩ := hR
    obtain ⟨g1, g2, g3⟩ := T5.fresh hq
    refine ⟨by show 2 ≤ sizeLine; decide, fun L hL => ?_⟩
    obtain ⟨nL1, nL2, nL3⟩ := T6.fresh hL
    refine ⟨_, rfl, _, _, rfl, t, d, c, 2, rfl, rfl, (T6.other nL1 nL2 nL3), by decide, by decide, fun w5 H7 T7 k7 hx => ?_⟩
    obtain ⟨y5, rfl, y5a, y5b⟩ := hx
    have hL5 := k7 L _ upd_same nL1 nL2
    have hq7 := k7 q _ (snewR (o := .lst [.int 3, .int 24]) hL _ _ hv1) g1 g2
    have kt67 : KT H6 H7 := (KT.of (snewR (o := .lst [.int 3, .int 24]) hL)).trans (k7.kt (T6.other nL1 nL2 nL3))
    have hm : ∀ z ∈ [V.int 3, V.int 24], ∃ nn : Nat, z = .int (nn : Int) := by
      intro z hz
      simp only [List.mem_cons, List.not_mem_nil, or_false] at hz
      rcases hz with rfl | rfl
      · exact ⟨3, rfl⟩
      · exact ⟨24, rfl⟩
    obtain ⟨z, hz1, hz2⟩ := at_in (xs := [V.int 3, V.int 24]) y5a (by show y5 < 2; omega)
    obtain ⟨nn, rfl⟩ := hm z hz2
    refine ⟨L, _, _, _, rfl, rfl, SqL.of hL5, hz1, _, rfl, q, _, rfl, SqL.of hq7, fun S hS => ?_⟩
    rw [cut_n]
    have T8 := T7.mono (snewR (o := .lst (vs.take nn)) hS)
    intro x dx hx hdx nex
    have kc7 : KpT t d Hc H7 := (k6.trans (KpT.of (snewR (o := .lst [.int 3, .int 24]) hL))).trans k7
    have hF7 := kc7 F _ hFc nF1 nF2
    have s8 : Same H7 (upd H7 S (.lst (vs.take nn))) := snewR hS
    have s9 : Same (upd H7 S (.lst (vs.take nn))) (upd (upd (upd H7 S (.lst (vs.take nn))) dx (.own x)) x (.ins (He.ga K "Book") dx [])) := (snewR hdx).trans (snewR (by rw [upd_ne nex.symm]; exact hx))
    have s79 := s8.trans s9
    refine ⟨_, _, rfl, x, dx, S, rs.take nn, vs.take nn, rfl, rfl, upd_same, SqL.of (s9 _ _ upd_same), ?_, fun r hr => hv3 r (List.mem_of_mem_take hr), by rw [List.length_take]; omega, fun H10 keep bk => ⟨rfl, ?_⟩⟩
    · exact (hv2.mono fun _ _ => TuAt.kt (kt67.trans (KT.of s79))).take nn
    have nx : ∀ b o, H7 b = some o → b ≠ x := fun b o e => ne_of_none (s8 _ _ e) hx
    have k710 : Same H7 H10 := fun b o e => keep b o (s79 _ _ e) (nx b o e)
    have hF10 := k710 _ _ hF7
    have T10 := T7.mono k710
    refine ⟨F, _, _, rfl, rfl, hF10, small15 (by rw [List.length_map, hbk.length]; omega), ?_⟩
    have kc10 : KpT t d Hc H10 := kc7.trans (KpT.of k710)
    have bkx := bk (off3 t d F) fun a ha => by
      obtain ⟨m, ds, cs, e1, e2, _, _⟩ := T7.ex
      rcases off3_yes ha with rfl | rfl | rfl
      · exact ⟨_, s79 _ _ e1⟩
      · exact ⟨_, s79 _ _ e2⟩
      · exact ⟨_, s79 _ _ hF7⟩
    have same1 : Same (mask (off3 t d F) Hc) (mask (off3 t d F) (upd H10 F (.lst (bs.map V.ref ++ [.ref x])))) := mask_same fun a o h e => by
      obtain ⟨e1, e2, e3⟩ := off3_ne h
      rw [upd_ne e3]
      exact kc10 a o e e1 e2
    have same2 : Same (mask (off3 t d F) H10) (mask (off3 t d F) (upd H10 F (.lst (bs.map V.ref ++ [.ref x])))) := mask_same fun a o h e => by
      rw [upd_ne (off3_ne h).2.2]
      exact e
    refine ⟨⟨_, rfl⟩, T10.other nF1 nF2 nF3, (k5.trans kc10).new hF, bs ++ [x], rss ++ [rs.take nn], by rw [upd_same, List.map_append]; rfl, (hbk.mono fun _ _ => BkAt.mono same1).snoc (bkx.mono same2), by rw [List.length_append]; exact Nat.succ_le_succ hrl, fun rs' hr => ?_⟩
    rcases List.mem_append.mp hr with h | h
    · exact h24 rs' h
    · rw [List.mem_singleton.mp h, List.length_take]
      omega
  · rintro σ Hc ⟨⟨v4, rfl⟩, T5, k5, bs, rss, hFc, hbk, hrl, h24⟩
    refine ⟨_, rfl, k F rss Hc T5 k5 hF ⟨bs, by rw [mask_at (offT_no nF1 nF2)]; exact hFc, hbk.mono fun _ _ => BkAt.mono (mask_sub fun a h => ?_)⟩ (by omega) h24⟩
    unfold off3
    rw [h]
    rfl

theorem chgs_snoc {t m : Int} {dl : Bool} {rs : List Rl} {i : Nat} {r : Rl} (h : rs[i]? = some r) : chgs t m dl (rs.take (i + 1)) = chgs t m dl (rs.take i) ++ (chgR t m dl r).toList := by
  unfold chgs
  rw [List.take_succ, h, List.filterMap_append]
  cases q : chgR t m dl r with
  | none => simp [q]
  | some r' => simp [q]

theorem sc_law_changed : FnScope ["_law_rules_here", "_law_times", "_law_more", "_law_deals", "_law_found", "_law_word", "_law_first", "_law_last", "_law_worth_here"] ["_law_rules_here", "_law_times", "_law_more", "_law_deals"] (defScope sLawChanged) := ⟨rfl, rfl, rfl, by decide +kernel, rfl, by decide +kernel, by decide +kernel⟩

def sp_law_changed : Sp := sp4 fun a tv mv dv H Q => ∃ q rs tm mo dl, a = .ref q ∧ tv = .int tm ∧ mv = .int mo ∧ dv = .bl dl ∧ RL H q rs ∧ rs.length ≤ 24 ∧ 0 ≤ tm ∧ tm ≤ 900 ∧ 0 ≤ mo ∧ mo < 1000000000 ∧ ∀ p H', Same H H' → H p = none → RL H' p (chgs tm mo dl rs) → Q (.ref p) H'
theorem has_law_changed (T : Tx K mg) : Has P w K mg base "_law_changed" 1 ["_law_rules_here", "_law_times", "_law_more", "_law_deals"] (sp_law_changed) := by
  have g_nd := sc_law_changed.nd
  refine T.d_law_changed.has sc_law_changed (fun _ _ _ _ _ _ us hl => match us, hl with | [_, _, _, _], _ => rfl) sp4_len (fun cdv A outer s H vs Q E hr h => ?_)
  obtain ⟨a0, a1, a2, a3, rfl, h⟩ := h
  obtain ⟨q, rs, tm, mo, dl, rfl, rfl, rfl, rfl, hR, h24, ht0, ht1, hm0, hm1, k⟩ := h
  refine ⟨_, (pss_cons (ps_set (i := 4) g_nd rfl (by first | exact Or.inl rfl | exact Or.inr rfl) (pe_lst pa_nil))
        (pss_cons (ps_for PassesOwn.never rfl (pi_list (pv 0)) (pg_tup rfl (pgs_cons (pg_name (i := 5) g_nd rfl (by first | exact Or.inl rfl | exact Or.inr rfl)) (pgs_cons (pg_name (i := 6) g_nd rfl (by first | exact Or.inl rfl | exact Or.inr rfl)) (pgs_cons (pg_name (i := 7) g_nd rfl (by first | exact Or.inl rfl | exact Or.inr rfl)) (pgs_cons (pg_name (i := 8) g_nd rfl (by first | exact Or.inl rfl | exact Or.inr rfl)) pgs_nil))))) (pss_one (ps_if (PW.pt (pw_and (pt_cmpR op_eq (pv 5) pe_str (nomark _)) (pw_and1 (pt_cmpR op_notN (pv 8) pe_non (nomark _))))) (pss_one (ps_expr (pe_bm PySem.F.plainAttrs_list PySem.F.slot_list_append PySem.F.type_list_append mt_append (pv 4) (pa_cons (pe_tup (pa_cons (pv 5) (pa_cons (pv 6) (pa_cons (pv 7) (pa_cons (pe_op op_add (pe_op op_mul (pe_op op_mod (pv 8) (pe_op op_pow pe_int pe_int)) (pv 1)) (pv 2)) pa_nil))))) pa_nil)))) (pss_one (ps_if (pt_cmpR op_eq (pv 5) pe_str (nomark _)) (pss_one (ps_expr (pe_bm PySem.F.plainAttrs_list PySem.F.slot_list_append PySem.F.type_list_append mt_append (pv 4) (pa_cons (pe_tup (pa_cons (pv 5) (pa_cons (pv 6) (pa_cons (pv 7) (pa_cons (pe_op op_mul (pe_op op_mod (pv 8) (pe_op op_pow pe_int pe_int)) (pv 1)) pa_nil))))) pa_nil)))) (pss_one (ps_if (PW.pt (pw_or (pt_cmpR op_ne (pv 5) pe_str (nomark _)) (pw_or1 (pt_val (pv 3))))) (pss_one (ps_expr (pe_bm PySem.F.plainAttrs_list PySem.F.slot_list_append PySem.F.type_list_append mt_append (pv 4) (pa_cons (pe_tup (pa_cons (pv 5) (pa_cons (pv 6) (pa_cons (pv 7) (pa_cons (pv 8) pa_nil))))) pa_nil)))) pss_nil)))))))
        (pss_one (ps_ret (pv 4))))), ?_⟩
  refine ⟨Nat.zero_le _, fun F hF => ?_⟩
  have s0 : Same H (upd H F (.lst [])) := snewR hF
  obtain ⟨vs, hv1, hv2, hv3⟩ := hR
  refine ⟨_, rfl, q, rfl, ⟨_, SqL.of (s0 _ _ hv1)⟩, for_list (K := K) (a := q) (xs := vs) (fun i σ Hc => (∃ v5 v6 v7 v8, σ = [some (.ref q), some (.int tm), some (.int mo), some (.bl dl), some (.ref F), v5, v6, v7, v8]) ∧ Same H Hc ∧ RL Hc F (chgs tm mo dl (rs.take i)))
    ⟨⟨none, none, none, none, rfl⟩, s0, RL.nil⟩ (fun i σ Hc _ ⟨_, s, _⟩ => SqL.of (s _ _ hv1)) ?_ ?_⟩
  · rintro i z σ Hc hz ⟨⟨v5, v6, v7, v8, rfl⟩, s1, RF⟩
    obtain ⟨r, hri, tx⟩ := hv2.get hz
    have ok := hv3 r (List.mem_of_getElem? hri)
    have hi : i < rs.length := (List.getElem?_eq_some_iff.mp hri).1
    obtain ⟨tp, x, rfl, htp, hx⟩ := tx.mono s1
    obtain ⟨ws, hF1, hF2, hF3⟩ := RF
    have eRF : chgs tm mo dl (rs.take (i + 1)) = chgs tm mo dl (rs.take i) ++ (chgR tm mo dl r).toList := chgs_snoc hri
    have okall := chgs_ok (t := tm) (m := mo) ht0 ht1 hm0 hm1 dl hv3
    have wl : ws.length < 100 := by
      rw [hF2.length]
      refine Nat.lt_of_le_of_lt (List.length_filterMap_le _ _) ?_
      rw [List.length_take]
      omega
    refine ⟨tp, _, rfl, SqT.of htp, rfl, _, _, rfl, _, _, rfl, _, _, rfl, _, _, rfl, rfl, ?_⟩
    -- a changed rule is appended
    have next : ∀ (x' : V) (wo' : Wo), chgR tm mo dl r = some ⟨r.w, r.a, r.b, wo'⟩ → WoAt Hc x' wo' → ∀ p2, Hc p2 = none → ∃ (l : Addr) (xs : List V) (y : V), V.ref F = .ref l ∧ [V.ref p2] = [y] ∧ (upd Hc p2 (.tup [.str r.w.s, .int r.a, .int r.b, x'])) l = some (.lst xs) ∧ xs.length < sizeLine ∧
        ((∃ v5 v6 v7 v8, [some (.ref q), some (.int tm), some (.int mo), some (.bl dl), some (.ref F), some (.str r.w.s), some (.int r.a), some (.int r.b), some x] = [some (.ref q), some (.int tm), some (.int mo), some (.bl dl), some (.ref F), v5, v6, v7, v8]) ∧ Same H (upd (upd Hc p2 (.tup [.str r.w.s, .int r.a, .int r.b, x'])) l (.lst (xs ++ [y]))) ∧ RL (upd (upd Hc p2 (.tup [.str r.w.s, .int r.a, .int r.b, x'])) l (.lst (xs ++ [y]))) F (chgs tm mo dl (rs.take (i + 1)))) := by
      intro x' wo' hc hwa p2 hp2
      have s2 : Same Hc (upd Hc p2 (.tup [.str r.w.s, .int r.a, .int r.b, x'])) := snewR hp2
      refine ⟨F, ws, _, rfl, rfl, s2 _ _ hF1, small15 wl, ⟨_, _, _, _, rfl⟩, snew (s1.trans s2) hF, ?_⟩
      rw [eRF, hc]
      refine RL.app (s2 _ _ hF1) (hF2.mono fun _ _ => TuAt.kt (KT.of s2)) hF3 ⟨p2, x', rfl, upd_same, hwa.mono s2⟩ (okall _ ?_)
      exact List.mem_filterMap.mpr ⟨r, List.mem_of_getElem? hri, hc⟩
    have hF1n : ∀ o : Nat, Hc F = some (.lst ws) := fun _ => hF1
    obtain ⟨rw0, ra, rb, rx⟩ := r
    have keep : ∀ y : Wo, outD dl rw0 = false → chgX tm mo rw0 rx = y → chgR tm mo dl ⟨rw0, ra, rb, rx⟩ = some ⟨rw0, ra, rb, y⟩ := fun y h1 h2 => by
      unfold chgR
      rw [h1, ← h2]
      rfl
    cases rw0 with
    | price =>
      refine ⟨_, rfl, rfl, _, rfl, iteTd rfl ?_⟩
      cases hx with
      | non =>
        refine ⟨_, rfl, rfl, _, rfl, iteFn rfl ?_⟩
        refine ⟨_, rfl, rfl, _, rfl, iteFd (show ¬ V.str (Wd.s .price) = V.str "fee" by decide +kernel) ?_⟩
        refine ⟨_, rfl, rfl, _, rfl, iteTn (show ¬ V.str (Wd.s .price) = V.str "deal" by decide +kernel) ?_⟩
        refine ⟨_, rfl, .inl ⟨rfl, _, SqL.of hF1⟩, _, rfl, _, rfl, _, rfl, _, rfl, by show 4 ≤ sizeLine; decide, fun p2 hp2 => ?_⟩
        exact next _ .non (keep _ rfl rfl) .non p2 hp2
      | int j =>
        refine ⟨_, rfl, rfl, _, rfl, iteTn (by simp) ?_⟩
        refine ⟨_, rfl, .inl ⟨rfl, _, SqL.of hF1⟩, _, rfl, _, rfl, _, rfl, ?_⟩
        refine ⟨_, rfl, _, _, rfl, rfl, ⟨by decide, by decide, by decide⟩, _, _, rfl, rfl, (show (0 : Int) < 10 ^ (9 : Int).toNat by decide), _, rfl, _, _, rfl, rfl, .inr ⟨by omega, by omega⟩, _, rfl, _, _, rfl, rfl, by show 4 ≤ sizeLine; decide, fun p2 hp2 => ?_⟩
        exact next _ (.int (j % 1000000000 * tm + mo)) (keep _ rfl rfl) (.int _) p2 hp2
      | bl b => exact ok.wo.elim
      | two e => exact ok.wo.elim
    | fee =>
      refine ⟨_, rfl, rfl, _, rfl, iteFd (show ¬ V.str (Wd.s .fee) = V.str "price" by decide +kernel) ?_⟩
      refine ⟨_, rfl, rfl, _, rfl, iteTd rfl ?_⟩
      cases hx with
      | int j =>
        refine ⟨_, rfl, .inl ⟨rfl, _, SqL.of hF1⟩, _, rfl, _, rfl, _, rfl, ?_⟩
        refine ⟨_, rfl, _, _, rfl, rfl, ⟨by decide, by decide, by decide⟩, _, _, rfl, rfl, (show (0 : Int) < 10 ^ (9 : Int).toNat by decide), _, rfl, _, _, rfl, rfl, .inr ⟨by omega, by omega⟩, by show 4 ≤ sizeLine; decide, fun p2 hp2 => ?_⟩
        exact next _ (.int (j % 1000000000 * tm)) (keep _ rfl rfl) (.int _) p2 hp2
      | non => exact ok.wo.elim
      | bl b => exact ok.wo.elim
      | two e => exact ok.wo.elim
    | deal =>
      refine ⟨_, rfl, rfl, _, rfl, iteFd (show ¬ V.str (Wd.s .deal) = V.str "price" by decide +kernel) ?_⟩
      refine ⟨_, rfl, rfl, _, rfl, iteFd (show ¬ V.str (Wd.s .deal) = V.str "fee" by decide +kernel) ?_⟩
      refine ⟨_, rfl, rfl, _, rfl, iteFn rfl ?_⟩
      refine ⟨_, rfl, _, rfl, ?_⟩
      cases dl with
      | true =>
        refine iteT ?_
        refine ⟨_, rfl, .inl ⟨rfl, _, SqL.of hF1⟩, _, rfl, _, rfl, _, rfl, _, rfl, by show 4 ≤ sizeLine; decide, fun p2 hp2 => ?_⟩
        exact next _ rx (keep _ rfl rfl) hx p2 hp2
      | false =>
        refine iteF ⟨⟨_, _, _, _, rfl⟩, s1, ?_⟩
        rw [eRF]
        show RL Hc F (chgs tm mo false (rs.take i) ++ [])
        rw [List.append_nil]
        exact ⟨ws, hF1, hF2, hF3⟩
    | come =>
      refine ⟨_, rfl, rfl, _, rfl, iteFd (show ¬ V.str (Wd.s .come) = V.str "price" by decide +kernel) ?_⟩
      refine ⟨_, rfl, rfl, _, rfl, iteFd (show ¬ V.str (Wd.s .come) = V.str "fee" by decide +kernel) ?_⟩
      refine ⟨_, rfl, rfl, _, rfl, iteTn (show ¬ V.str (Wd.s .come) = V.str "deal" by decide +kernel) ?_⟩
      refine ⟨_, rfl, .inl ⟨rfl, _, SqL.of hF1⟩, _, rfl, _, rfl, _, rfl, _, rfl, by show 4 ≤ sizeLine; decide, fun p2 hp2 => ?_⟩
      exact next _ rx (keep _ rfl rfl) hx p2 hp2
    | go =>
      refine ⟨_, rfl, rfl, _, rfl, iteFd (show ¬ V.str (Wd.s .go) = V.str "price" by decide +kernel) ?_⟩
      refine ⟨_, rfl, rfl, _, rfl, iteFd (show ¬ V.str (Wd.s .go) = V.str "fee" by decide +kernel) ?_⟩
      refine ⟨_, rfl, rfl, _, rfl, iteTn (show ¬ V.str (Wd.s .go) = V.str "deal" by decide +kernel) ?_⟩
      refine ⟨_, rfl, .inl ⟨rfl, _, SqL.of hF1⟩, _, rfl, _, rfl, _, rfl, _, rfl, by show 4 ≤ sizeLine; decide, fun p2 hp2 => ?_⟩
      exact next _ rx (keep _ rfl rfl) hx p2 hp2
    | least =>
      refine ⟨_, rfl, rfl, _, rfl, iteFd (show ¬ V.str (Wd.s .least) = V.str "price" by decide +kernel) ?_⟩
      refine ⟨_, rfl, rfl, _, rfl, iteFd (show ¬ V.str (Wd.s .least) = V.str "fee" by decide +kernel) ?_⟩
      refine ⟨_, rfl, rfl, _, rfl, iteTn (show ¬ V.str (Wd.s .least) = V.str "deal" by decide +kernel) ?_⟩
      refine ⟨_, rfl, .inl ⟨rfl, _, SqL.of hF1⟩, _, rfl, _, rfl, _, rfl, _, rfl, by show 4 ≤ sizeLine; decide, fun p2 hp2 => ?_⟩
      exact next _ rx (keep _ rfl rfl) hx p2 hp2
    | most =>
      refine ⟨_, rfl, rfl, _, rfl, iteFd (show ¬ V.str (Wd.s .most) = V.str "price" by decide +kernel) ?_⟩
      refine ⟨_, rfl, rfl, _, rfl, iteFd (show ¬ V.str (Wd.s .most) = V.str "fee" by decide +kernel) ?_⟩
      refine ⟨_, rfl, rfl, _, rfl, iteTn (show ¬ V.str (Wd.s .most) = V.str "deal" by decide +kernel) ?_⟩
      refine ⟨_, rfl, .inl ⟨rfl, _, SqL.of hF1⟩, _, rfl, _, rfl, _, rfl, _, rfl, by show 4 ≤ sizeLine; decide, fun p2 hp2 => ?_⟩
      exact next _ rx (keep _ rfl rfl) hx p2 hp2
  · rintro σ Hc ⟨⟨v5, v6, v7, v8, rfl⟩, s1, RF⟩
    rw [hv2.length, List.take_length] at RF
    exact ⟨_, rfl, k F Hc s1 hF RF⟩

end
end Stp
namespace Stp
open PySem PySem.Spec PyProof.Rows L2
section
variable {P : Program} {w : World} {K : PySem.W.Frag} {mg : Str → Option Value} {base : Heap}

theorem sc_law_books_of : FnScope ["_law_books_here", "_law_times", "_law_more", "_law_deals", "_law_book"] ["_law_books_here", "_law_times", "_law_more", "_law_deals"] (defScope sLawBooksOf) := ⟨rfl, rfl, rfl, by decide +kernel, rfl, by decide +kernel, by decide +kernel⟩

def sp_law_books_of (K : PySem.W.Frag) : Sp := sp4 fun a tv mv dv H Q => ∃ l rss tm mo dl, a = .ref l ∧ tv = .int tm ∧ mv = .int mo ∧ dv = .bl dl ∧ BksAt K H l rss ∧ rss.length ≤ 4 ∧ (∀ rs ∈ rss, rs.length ≤ 24) ∧ 0 ≤ tm ∧ tm ≤ 900 ∧ 0 ≤ mo ∧ mo < 1000000000 ∧ ∀ q H', Same H H' → H q = none → BksAt K H' q (Fam rss tm mo dl) → Q (.ref q) H'
theorem has_law_books_of (T : Tx K mg) : Has P w K mg base "_law_books_of" 8 ["_law_books_here", "_law_times", "_law_more", "_law_deals"] (sp_law_books_of K) := by
  have g_law_changed := has_law_changed (P := P) (w := w) (base := base) T
  have c_Book := has_Book (P := P) (w := w) (base := base) T
  have m_rules := has_rules (P := P) (w := w) (base := base) T
  have g_nd := sc_law_books_of.nd
  refine T.d_law_books_of.has sc_law_books_of (fun _ _ _ _ _ _ us hl => match us, hl with | [_, _, _, _], _ => rfl) sp4_len (fun cdv A outer s H vs Q E hr h => ?_)
  obtain ⟨a0, a1, a2, a3, rfl, h⟩ := h
  obtain ⟨l, rss, tm, mo, dl, rfl, rfl, rfl, rfl, ⟨bs, hl, hbk⟩, h4, h24, ht0, ht1, hm0, hm1, k⟩ := h
  refine ⟨_, (pss_one (ps_ret (pe_lc (own := [("_law_book", 4)]) (tt := tYes) (g := gName 4) rfl g_nd (pi_list (pv 0)) (blkOk_by (own := [("_law_book", 4)]) (N := ["_law_books_here", "_law_times", "_law_more", "_law_deals", "_law_book"]) (sc := defScope sLawBooksOf) (by decide +kernel)) (fun _ _ _ _ _ => (pg_name (i := 4) g_nd rfl (by first | exact Or.inl rfl | exact Or.inr rfl))) (fun _ _ _ _ _ => pts_nil) (fun _ _ _ _ _ => (pmake c_Book (hr.mono (by decide)) (by rfl) (pa_cons (pcall g_law_changed (hr.mono (by decide)) (by rfl) (pa_cons (pmeth0 (pv 4) m_rules (hr.mono (by decide))) (pa_cons (pv 1) (pa_cons (pv 2) (pa_cons (pv 3) pa_nil))))) pa_nil)))))), ?_⟩
  refine ⟨_, rfl, l, rfl, ⟨_, SqL.of hl⟩, fun D hD => ?_⟩
  refine lc_list (K := K) (a := l) (xs := bs.map V.ref) (fun i Hc => Same H Hc ∧ ∃ bs' : List Addr, Hc D = some (.lst (bs'.map V.ref)) ∧ bs'.length = i ∧ All2 (BkAt K (mask (fun a => decide (a = D)) Hc)) bs' (Fam (rss.take i) tm mo dl))
    ⟨snewR hD, [], upd_same, rfl, by simp; exact .nil⟩ (fun i Hc _ ⟨s, _⟩ => SqL.of (s _ _ hl)) ?_ ?_
  · rintro i z Hc hz ⟨s1, bs', hDc, hbl, hb'⟩
    obtain ⟨b, hbi, rfl⟩ : ∃ b, bs[i]? = some b ∧ z = V.ref b := by
      rw [List.getElem?_map] at hz
      cases e : bs[i]? with
      | none => rw [e] at hz; cases hz
      | some y => rw [e] at hz; exact ⟨y, rfl, (Option.some.inj hz).symm⟩
    obtain ⟨rs, hrs, hb0⟩ := hbk.get hbi
    have hi4 : i < 4 := Nat.lt_of_lt_of_le (List.getElem?_eq_some_iff.mp hrs).1 h4
    have hb := hb0.mono s1
    have hr24 := h24 rs (List.mem_of_getElem? hrs)
    obtain ⟨dx0, kp, nw, hins⟩ := hb.ins
    refine ⟨rfl, ?_⟩
    refine ⟨_, rfl, b, dx0, _, rfl, hins, bkFl_rules _ _, _, rfl, b, rs, rfl, hb, hr24, fun q vs H1 s2 hq hv hall => ?_⟩
    refine ⟨_, rfl, _, rfl, _, rfl, _, _, _, _, rfl, q, rs, tm, mo, dl, rfl, rfl, rfl, rfl, ⟨vs, hv, hall, hb.ok⟩, hr24, ht0, ht1, hm0, hm1, fun p H2 s3 hp R2 => ?_⟩
    obtain ⟨ws, g1, g2, g3⟩ := R2
    intro x dx hx hdx nex
    have s9 : Same H2 (upd (upd H2 dx (.own x)) x (.ins (He.ga K "Book") dx [])) := (snewR hdx).trans (snewR (by rw [upd_ne nex.symm]; exact hx))
    have sc2 : Same Hc H2 := s2.trans s3
    refine ⟨_, _, rfl, x, dx, p, chgs tm mo dl rs, ws, rfl, rfl, upd_same, SqL.of (s9 _ _ g1), g2.mono fun _ _ => TuAt.kt (KT.of s9), g3, Nat.le_trans (List.length_filterMap_le _ _) hr24, fun H10 keep bk => ⟨rfl, ?_⟩⟩
    have k210 : Same H2 H10 := fun b o e => keep b o (s9 _ _ e) (ne_of_none e hx)
    have sc10 : Same Hc H10 := sc2.trans k210
    have hD10 := sc10 _ _ hDc
    have bkx := bk (fun a => decide (a = D)) fun a ha => by
      rw [of_decide_eq_true ha]
      exact ⟨_, s9 _ _ (sc2 _ _ hDc)⟩
    have ne : ∀ a, (fun a => decide (a = D)) a = false → a ≠ D := fun a h => of_decide_eq_false h
    have same1 : Same (mask (fun a => decide (a = D)) Hc) (mask (fun a => decide (a = D)) (upd H10 D (.lst (bs'.map V.ref ++ [.ref x])))) := mask_same fun a o h e => by
      rw [upd_ne (ne a h)]
      exact sc10 a o e
    have same2 : Same (mask (fun a => decide (a = D)) H10) (mask (fun a => decide (a = D)) (upd H10 D (.lst (bs'.map V.ref ++ [.ref x])))) := mask_same fun a o h e => by
      rw [upd_ne (ne a h)]
      exact e
    have etk : Fam (rss.take (i + 1)) tm mo dl = Fam (rss.take i) tm mo dl ++ [chgs tm mo dl rs] := by
      show (rss.take (i + 1)).map _ = _
      rw [List.take_succ, hrs, List.map_append]
      rfl
    refine ⟨_, hD10, by rw [List.length_map, hbl]; exact small15 (by omega), snew (s1.trans sc10) hD, bs' ++ [x], by rw [upd_same, List.map_append]; rfl, by rw [List.length_append, hbl]; rfl, ?_⟩
    rw [etk]
    exact (hb'.mono fun _ _ => BkAt.mono same1).snoc (bkx.mono same2)
  rintro Hc ⟨s1, bs', hDc, hbl, hb'⟩
  rw [List.length_map, hbk.length, List.take_length] at hb'
  exact k D Hc s1 hD ⟨bs', hDc, hb'.mono fun _ _ => BkAt.mono (mask_le _ _)⟩

end
end Stp
namespace Stp
open PySem PySem.Spec PyProof.Rows L2
section
variable {P : Program} {w : World} {K : PySem.W.Frag} {mg : Str → Option Value} {base : Heap}

def tagS : Res → Str
  | .had _ _ _ => "had"
  | .off _ => "off"
theorem ResAt.tag {H : Hp} {q : Addr} : ∀ {r : Res}, ResAt H q r → ∃ rest, H q = some (.tup (.str (tagS r) :: rest))
  | .had _ _ _, ⟨_, _, _, h, _⟩ => ⟨_, h⟩
  | .off _, ⟨_, h, _⟩ => ⟨_, h⟩
theorem tag_kind {r r' : Res} (h : isHad r = isHad r') : tagS r = tagS r' := by
  cases r <;> cases r' <;> first | rfl | cases h
theorem at_hd {v : V} {xs : List V} : atI (v :: xs) 0 = some v := at_of (j := 0) rfl rfl

theorem sc_law : FnScope ["_law_script", "_law_tape_here", "_law_days", "_law_base", "_law_books_here", "_law_stay_here", "_law_times", "_law_more", "_law_plain", "_law_great", "_law_ones", "_law_others", "_law_paper", "_law_number"] ["_law_script"] (defScope sLaw) := ⟨rfl, rfl, rfl, by decide +kernel, rfl, by decide +kernel, by decide +kernel⟩

def sp_law (K : PySem.W.Frag) : Sp := sp1 fun a H Q => ∃ (s : Addr) (ns : List Int), a = .ref s ∧ SqL K H s (ns.map V.int) ∧ ns.length ≤ 63 ∧ ∀ H', Q (.bl true) H'
theorem ok_law (T : Tx K mg) {fd : FuncData} (F : FunD K "law" "law" (defArgs sLaw) (defBody sLaw) (defScope sLaw) [] [] (He.ga K "law") fd) : FnOk P w K mg base CX0 9 (He.ga K "law") fd ["_law_script"] (sp_law K) := by
  have g_law_tape := has_law_tape (P := P) (w := w) (base := base) T
  have g_law_draw := has_law_draw (P := P) (w := w) (base := base) T
  have g_law_books := has_law_books (P := P) (w := w) (base := base) T
  have g_law_stay := has_law_stay (P := P) (w := w) (base := base) T
  have g_law_books_of := has_law_books_of (P := P) (w := w) (base := base) T
  have g_best := has_best (P := P) (w := w) (base := base) T
  have g_lets_by := has_lets_by (P := P) (w := w) (base := base) T
  have g_nd := sc_law.nd
  refine nox_ok F sc_law sp1_len (fun cdv A outer s H vs Q E hr h => ?_)
  obtain ⟨a0, rfl, h⟩ := h
  obtain ⟨s, ns, rfl, hs, hlen, k⟩ := h
  refine ⟨_, (pss_cons (ps_set (i := 1) g_nd rfl (by first | exact Or.inl rfl | exact Or.inr rfl) (pcall g_law_tape (hr.mono (by decide)) (by rfl) (pa_cons (pv 0) pa_nil)))
        (pss_cons (ps_set (i := 2) g_nd rfl (by first | exact Or.inl rfl | exact Or.inr rfl) (pe_op op_add pe_int (pcall g_law_draw (hr.mono (by decide)) (by rfl) (pa_cons (pv 1) (pa_cons pe_int pa_nil)))))
        (pss_cons (ps_set (i := 3) g_nd rfl (by first | exact Or.inl rfl | exact Or.inr rfl) (pe_ix (r := rIxL K) ix_list (pe_lst (pa_cons pe_int (pa_cons (pe_op op_sub (pe_op op_pow pe_int pe_int) pe_int) (pa_cons (pe_op op_add pe_int (pcall g_law_draw (hr.mono (by decide)) (by rfl) (pa_cons (pv 1) (pa_cons (pe_op op_sub (pe_op op_pow pe_int pe_int) pe_int) pa_nil)))) pa_nil)))) (pcall g_law_draw (hr.mono (by decide)) (by rfl) (pa_cons (pv 1) (pa_cons pe_int pa_nil))) (fun _ _ => rfl)))
        (pss_cons (ps_set (i := 4) g_nd rfl (by first | exact Or.inl rfl | exact Or.inr rfl) (pcall g_law_books (hr.mono (by decide)) (by rfl) (pa_cons (pv 1) (pa_cons (pv 3) (pa_cons (pv 2) pa_nil)))))
        (pss_cons (ps_set (i := 5) g_nd rfl (by first | exact Or.inl rfl | exact Or.inr rfl) (pcall g_law_stay (hr.mono (by decide)) (by rfl) (pa_cons (pv 1) (pa_cons (pv 3) (pa_cons (pv 2) pa_nil)))))
        (pss_cons (ps_set (i := 6) g_nd rfl (by first | exact Or.inl rfl | exact Or.inr rfl) (pe_ix (r := rIxL K) ix_list (pe_lst (pa_cons pe_int (pa_cons pe_int (pa_cons (pe_op op_add pe_int (pcall g_law_draw (hr.mono (by decide)) (by rfl) (pa_cons (pv 1) (pa_cons pe_int pa_nil)))) pa_nil)))) (pcall g_law_draw (hr.mono (by decide)) (by rfl) (pa_cons (pv 1) (pa_cons pe_int pa_nil))) (fun _ _ => rfl)))
        (pss_cons (ps_set (i := 7) g_nd rfl (by first | exact Or.inl rfl | exact Or.inr rfl) (pcall g_law_draw (hr.mono (by decide)) (by rfl) (pa_cons (pv 1) (pa_cons (pe_op op_pow pe_int pe_int) pa_nil))))
        (pss_cons (ps_set (i := 8) g_nd rfl (by first | exact Or.inl rfl | exact Or.inr rfl) (pcall g_best (hr.mono (by decide)) (by rfl) (pa_cons (pcall g_law_books_of (hr.mono (by decide)) (by rfl) (pa_cons (pv 4) (pa_cons pe_int (pa_cons pe_int (pa_cons pe_bl pa_nil))))) (pa_cons (pv 5) pa_nil))))
        (pss_cons (ps_set (i := 9) g_nd rfl (by first | exact Or.inl rfl | exact Or.inr rfl) (pcall g_best (hr.mono (by decide)) (by rfl) (pa_cons (pcall g_law_books_of (hr.mono (by decide)) (by rfl) (pa_cons (pv 4) (pa_cons (pv 6) (pa_cons pe_int (pa_cons pe_bl pa_nil))))) (pa_cons (pv 5) pa_nil))))
        (pss_cons (ps_set (i := 10) g_nd rfl (by first | exact Or.inl rfl | exact Or.inr rfl) (pcall g_best (hr.mono (by decide)) (by rfl) (pa_cons (pcall g_law_books_of (hr.mono (by decide)) (by rfl) (pa_cons (pv 4) (pa_cons pe_int (pa_cons pe_int (pa_cons pe_bl pa_nil))))) (pa_cons (pv 5) pa_nil))))
        (pss_cons (ps_set (i := 11) g_nd rfl (by first | exact Or.inl rfl | exact Or.inr rfl) (pcall g_best (hr.mono (by decide)) (by rfl) (pa_cons (pcall g_law_books_of (hr.mono (by decide)) (by rfl) (pa_cons (pv 4) (pa_cons pe_int (pa_cons (pv 7) (pa_cons pe_bl pa_nil))))) (pa_cons (pv 5) pa_nil))))
        (pss_cons (ps_if (pt_not (pt_chain3 op_eq op_eq op_eq (pe_ix (r := rIxT K) ix_tup (pv 8) pe_int (fun _ _ => rfl)) (pe_ix (r := rIxT K) ix_tup (pv 9) pe_int (fun _ _ => rfl)) (pe_ix (r := rIxT K) ix_tup (pv 10) pe_int (fun _ _ => rfl)) (pe_ix (r := rIxT K) ix_tup (pv 11) pe_int (fun _ _ => rfl)))) (pss_one (ps_ret pe_bl)) pss_nil)
        (pss_cons (ps_if (pt_cmpR op_eq (pe_ix (r := rIxT K) ix_tup (pv 8) pe_int (fun _ _ => rfl)) pe_str (nomark _)) (pss_one (ps_ret (pe_cmpR op_is_bl (pcall g_lets_by (hr.mono (by decide)) (by rfl) (pa_cons (pcall g_law_books_of (hr.mono (by decide)) (by rfl) (pa_cons (pv 4) (pa_cons (pv 6) (pa_cons (pv 7) (pa_cons pe_bl pa_nil))))) (pa_cons (pv 5) (pa_cons (pv 8) pa_nil)))) pe_bl (nomark _)))) pss_nil)
        (pss_cons (ps_if (PW.pt (pw_or (pt_cmpR op_ne (pe_ix (r := rIxT K) ix_tup (pv 9) pe_int (fun _ _ => rfl)) (pe_op op_mul (pe_ix (r := rIxT K) ix_tup (pv 8) pe_int (fun _ _ => rfl)) (pv 6)) (nomark _)) (pw_or1 (pt_cmpR op_ne (pe_ix (r := rIxT K) ix_tup (pv 11) pe_int (fun _ _ => rfl)) (pe_op op_add (pe_ix (r := rIxT K) ix_tup (pv 10) pe_int (fun _ _ => rfl)) (pe_op op_mul (pv 7) (pe_op op_sub (pe_ix (r := rIxT K) ix_tup (pv 5) pe_int (fun _ _ => rfl)) (pe_ix (r := rIxT K) ix_tup (pv 5) pe_int (fun _ _ => rfl))))) (nomark _))))) (pss_one (ps_ret pe_bl)) pss_nil)
        (pss_cons (ps_setLc (i := 12) (own := [("_law_number", 13)]) (tt := tYes) (g := gName 13) rfl g_nd rfl rfl (sw_true rfl rfl rfl (by decide +kernel)) (pi_list (pe_ix (r := rIxT K) ix_tup (pv 8) pe_int (fun _ _ => rfl))) (blkOk_by (own := [("_law_number", 13)]) (N := ["_law_script", "_law_tape_here", "_law_days", "_law_base", "_law_books_here", "_law_stay_here", "_law_times", "_law_more", "_law_plain", "_law_great", "_law_ones", "_law_others", "_law_paper", "_law_number"]) (sc := defScope sLaw) (by decide +kernel)) (fun _ _ _ _ _ => (pg_name (i := 13) g_nd rfl (by first | exact Or.inl rfl | exact Or.inr rfl))) (fun _ _ _ _ _ => pts_nil) (fun _ _ _ _ _ => (pe_op op_mul (pv 13) (pv 6))))
        (pss_cons (ps_if (pt_cmpR op_isnot_bl (pcall g_lets_by (hr.mono (by decide)) (by rfl) (pa_cons (pcall g_law_books_of (hr.mono (by decide)) (by rfl) (pa_cons (pv 4) (pa_cons (pv 6) (pa_cons pe_int (pa_cons pe_bl pa_nil))))) (pa_cons (pv 5) (pa_cons (pe_tup (pa_cons pe_str (pa_cons (pe_ix (r := rIxT K) ix_tup (pv 9) pe_int (fun _ _ => rfl)) (pa_cons (pe_ix (r := rIxT K) ix_tup (pv 8) pe_int (fun _ _ => rfl)) (pa_cons (pv 12) pa_nil))))) pa_nil)))) pe_bl (nomark _)) (pss_one (ps_ret pe_bl)) pss_nil)
        (pss_cons (ps_setLc (i := 12) (own := [("_law_number", 13)]) (tt := tYes) (g := gName 13) rfl g_nd rfl rfl (sw_true rfl rfl rfl (by decide +kernel)) (pi_list (pe_ix (r := rIxT K) ix_tup (pv 10) pe_int (fun _ _ => rfl))) (blkOk_by (own := [("_law_number", 13)]) (N := ["_law_script", "_law_tape_here", "_law_days", "_law_base", "_law_books_here", "_law_stay_here", "_law_times", "_law_more", "_law_plain", "_law_great", "_law_ones", "_law_others", "_law_paper", "_law_number"]) (sc := defScope sLaw) (by decide +kernel)) (fun _ _ _ _ _ => (pg_name (i := 13) g_nd rfl (by first | exact Or.inl rfl | exact Or.inr rfl))) (fun _ _ _ _ _ => pts_nil) (fun _ _ _ _ _ => (pe_op op_add (pv 13) (pv 7))))
        (pss_one (ps_ret (pe_cmpR op_is_bl (pcall g_lets_by (hr.mono (by decide)) (by rfl) (pa_cons (pcall g_law_books_of (hr.mono (by decide)) (by rfl) (pa_cons (pv 4) (pa_cons pe_int (pa_cons (pv 7) (pa_cons pe_bl pa_nil))))) (pa_cons (pv 5) (pa_cons (pe_tup (pa_cons pe_str (pa_cons (pe_ix (r := rIxT K) ix_tup (pv 11) pe_int (fun _ _ => rfl)) (pa_cons (pe_ix (r := rIxT K) ix_tup (pv 10) pe_int (fun _ _ => rfl)) (pa_cons (pv 12) pa_nil))))) pa_nil)))) pe_bl (nomark _))))))))))))))))))))), ?_⟩
  -- the tape
  refine ⟨_, rfl, _, rfl, s, ns, rfl, hs, hlen, fun t d c H0 s0 ht0 hd0 hc0 T0 => ?_⟩
  -- days
  refine ⟨_, rfl, _, _, rfl, t, d, c, 7, rfl, rfl, T0, by decide, by decide, fun v1 H1 T1 k1 hx => ?_⟩
  obtain ⟨x1, rfl, x1a, x1b⟩ := hx
  refine ⟨_, _, rfl, rfl, ?_⟩
  have hn : 2 ≤ 2 + x1 ∧ 2 + x1 ≤ 8 := by omega
  -- base
  refine ⟨_, _, rfl, rfl, ⟨by decide, by decide, by decide⟩, _, _, rfl, rfl, ?_⟩
  refine ⟨_, rfl, _, _, rfl, rfl, ⟨by decide, by decide, by decide⟩, _, _, rfl, rfl, _, _, rfl, t, d, c, _, rfl, rfl, T1, (show (0 : Int) < 10 ^ (6 : Int).toNat - 30 by decide), (show (10 : Int) ^ (6 : Int).toNat - 30 ≤ 1000000000001 by decide), fun v2 H2 T2 k2 hx => ?_⟩
  obtain ⟨x2, rfl, x2a, x2b⟩ := hx
  refine ⟨_, _, rfl, rfl, by show 3 ≤ sizeLine; decide, fun L1 hL1 => ?_⟩
  obtain ⟨n11, n12, n13⟩ := T2.fresh hL1
  refine ⟨_, rfl, _, _, rfl, t, d, c, 3, rfl, rfl, (T2.other n11 n12 n13), by decide, by decide, fun v3 H3 T3 k3 hx => ?_⟩
  obtain ⟨x3, rfl, x3a, x3b⟩ := hx
  have hL13 := k3 L1 _ upd_same n11 n12
  have hm1 : ∀ z ∈ [V.int 1, V.int (10 ^ (6 : Int).toNat - 20), V.int (1 + x2)], ∃ b : Int, z = .int b ∧ 0 ≤ b ∧ b ≤ 999980 := by
    have e6 : (10 : Int) ^ (6 : Int).toNat = 1000000 := by decide
    intro z hz
    simp only [List.mem_cons, List.not_mem_nil, or_false] at hz
    rcases hz with rfl | rfl | rfl
    · exact ⟨_, rfl, by omega, by omega⟩
    · exact ⟨_, rfl, by omega, by omega⟩
    · exact ⟨_, rfl, by omega, by omega⟩
  obtain ⟨z1, hz11, hz12⟩ := at_in (xs := [V.int 1, V.int (10 ^ (6 : Int).toNat - 20), V.int (1 + x2)]) x3a (by show x3 < 3; omega)
  obtain ⟨b, rfl, hb0, hb1⟩ := hm1 z1 hz12
  refine ⟨L1, _, _, _, rfl, rfl, SqL.of hL13, hz11, ?_⟩
  -- books
  refine ⟨_, rfl, _, rfl, _, rfl, _, _, _, rfl, t, d, c, b, 2 + x1, rfl, rfl, rfl, T3, hb0, hb1, hn.1, hn.2, fun qb rss H4 T4 k4 hqb hbk4 h4 h24 => ?_⟩
  -- stay
  refine ⟨_, rfl, _, rfl, _, rfl, _, _, _, rfl, t, d, c, b, 2 + x1, rfl, rfl, rfl, T4, hb0, hb1, hn.1, hn.2, fun qs x y H5 T5 k5 hqs0 hqs5 ho => ?_⟩
  have hlt := ho.lt
  -- times
  refine ⟨_, rfl, _, _, rfl, t, d, c, 899, rfl, rfl, T5, by decide, by decide, fun v6 H6 T6 k6 hx => ?_⟩
  obtain ⟨x6, rfl, x6a, x6b⟩ := hx
  refine ⟨_, _, rfl, rfl, by show 3 ≤ sizeLine; decide, fun L2 hL2 => ?_⟩
  obtain ⟨n21, n22, n23⟩ := T6.fresh hL2
  refine ⟨_, rfl, _, _, rfl, t, d, c, 3, rfl, rfl, (T6.other n21 n22 n23), by decide, by decide, fun v7 H7 T7 k7 hx => ?_⟩
  obtain ⟨x7, rfl, x7a, x7b⟩ := hx
  have hL27 := k7 L2 _ upd_same n21 n22
  have hm2 : ∀ z ∈ [V.int 0, V.int 1, V.int (2 + x6)], ∃ tm : Int, z = .int tm ∧ 0 ≤ tm ∧ tm ≤ 900 := by
    intro z hz
    simp only [List.mem_cons, List.not_mem_nil, or_false] at hz
    rcases hz with rfl | rfl | rfl
    · exact ⟨_, rfl, by omega, by omega⟩
    · exact ⟨_, rfl, by omega, by omega⟩
    · exact ⟨_, rfl, by omega, by omega⟩
  obtain ⟨z2, hz21, hz22⟩ := at_in (xs := [V.int 0, V.int 1, V.int (2 + x6)]) x7a (by show x7 < 3; omega)
  obtain ⟨tm, rfl, htm0, htm1⟩ := hm2 z2 hz22
  refine ⟨L2, _, _, _, rfl, rfl, SqL.of hL27, hz21, ?_⟩
  -- more
  refine ⟨_, rfl, _, _, rfl, rfl, ⟨by decide, by decide, by decide⟩, _, _, rfl, t, d, c, _, rfl, rfl, T7, (show (0 : Int) < 10 ^ (9 : Int).toNat by decide), (show (10 : Int) ^ (9 : Int).toNat ≤ 1000000000001 by decide), fun v8 H8 T8 k8 hx => ?_⟩
  obtain ⟨mo, rfl, hmo0, hmo1⟩ := hx
  refine nmG (σ' := [some (.ref s), some (.ref t), some (.int (2 + x1)), some (.int b), some (.ref qb), some (.ref qs), some (.int tm), some (.int mo), none, none, none, none, none, none]) rfl ?_
  have hmo2 : mo < 1000000000 := by
    have e9 : (10 : Int) ^ (9 : Int).toNat = 1000000000 := by decide
    omega
  -- what stands now
  have k58 : KpT t d H5 H8 := ((k6.trans (KpT.of (snewR (o := .lst [.int 0, .int 1, .int (2 + x6)]) hL2))).trans k7).trans k8
  have hqs : H8 qs = some (.tup [.int x, .int y]) := (k58.kt T5) _ _ hqs5
  have hbk : BksAt K H8 qb rss := (hbk4.mono (offT_keep (k5.trans k58))).mono (mask_le _ _)
  have s88 := Same.refl H8
  clear hz11 hz12 hz21 hz22 hm1 hm2 hL13 hL27
  -- the four bests
  refine ⟨_, rfl, _, _, _, _, rfl, qb, rss, 1, 0, true, rfl, rfl, rfl, rfl, hbk.mono s88, h4, h24, by omega, by omega, by omega, by omega, fun b1 H1a s1a hb1 bk1 => ?_⟩
  have s1x := s88.trans s1a
  refine ⟨_, rfl, _, _, rfl, b1, qs, x, y, Fam rss 1 0 true, rfl, rfl, bk1, by rw [List.length_map]; exact h4, s1x _ _ hqs, ho, fun q1 r1 H1b s1b ra1 ok1 => ?_⟩
  have s1y := s1x.trans s1b
  refine nmG (σ' := [some (.ref s), some (.ref t), some (.int (2 + x1)), some (.int b), some (.ref qb), some (.ref qs), some (.int tm), some (.int mo), some (.ref q1), none, none, none, none, none]) rfl ?_
  refine ⟨_, rfl, _, rfl, _, _, _, _, rfl, qb, rss, tm, 0, true, rfl, rfl, rfl, rfl, hbk.mono s1y, h4, h24, by omega, by omega, by omega, by omega, fun b2 H2a s2a hb2 bk2 => ?_⟩
  have s2x := s1y.trans s2a
  refine ⟨_, rfl, _, _, rfl, b2, qs, x, y, Fam rss tm 0 true, rfl, rfl, bk2, by rw [List.length_map]; exact h4, s2x _ _ hqs, ho, fun q2 r2 H2b s2b ra2 ok2 => ?_⟩
  have s2y := s2x.trans s2b
  refine nmG (σ' := [some (.ref s), some (.ref t), some (.int (2 + x1)), some (.int b), some (.ref qb), some (.ref qs), some (.int tm), some (.int mo), some (.ref q1), some (.ref q2), none, none, none, none]) rfl ?_
  refine ⟨_, rfl, _, _, _, _, rfl, qb, rss, 1, 0, false, rfl, rfl, rfl, rfl, hbk.mono s2y, h4, h24, by omega, by omega, by omega, by omega, fun b3 H3a s3a hb3 bk3 => ?_⟩
  have s3x := s2y.trans s3a
  refine ⟨_, rfl, _, _, rfl, b3, qs, x, y, Fam rss 1 0 false, rfl, rfl, bk3, by rw [List.length_map]; exact h4, s3x _ _ hqs, ho, fun q3 r3 H3b s3b ra3 ok3 => ?_⟩
  have s3y := s3x.trans s3b
  refine nmG (σ' := [some (.ref s), some (.ref t), some (.int (2 + x1)), some (.int b), some (.ref qb), some (.ref qs), some (.int tm), some (.int mo), some (.ref q1), some (.ref q2), some (.ref q3), none, none, none]) rfl ?_
  refine ⟨_, rfl, _, rfl, _, _, _, _, rfl, qb, rss, 1, mo, false, rfl, rfl, rfl, rfl, hbk.mono s3y, h4, h24, by omega, by omega, by omega, by omega, fun b4 H4a s4a hb4 bk4 => ?_⟩
  have s4x := s3y.trans s4a
  refine ⟨_, rfl, _, _, rfl, b4, qs, x, y, Fam rss 1 mo false, rfl, rfl, bk4, by rw [List.length_map]; exact h4, s4x _ _ hqs, ho, fun q4 r4 H4b s4b ra4 ok4 => ?_⟩
  have s4y := s4x.trans s4b
  refine nmG (σ' := [some (.ref s), some (.ref t), some (.int (2 + x1)), some (.int b), some (.ref qb), some (.ref qs), some (.int tm), some (.int mo), some (.ref q1), some (.ref q2), some (.ref q3), some (.ref q4), none, none]) rfl ?_
  have ra14 := ra1.mono (((s2a.trans s2b).trans (s3a.trans s3b)).trans (s4a.trans s4b))
  have ra24 := ra2.mono ((s3a.trans s3b).trans (s4a.trans s4b))
  have ra34 := ra3.mono (s4a.trans s4b)
  obtain ⟨rest1, hq1⟩ := ra14.tag
  obtain ⟨rest2, hq2⟩ := ra24.tag
  obtain ⟨rest3, hq3⟩ := ra34.tag
  obtain ⟨rest4, hq4⟩ := ra4.tag
  have t12 := tag_kind (same_kind ok1 ok2)
  have t23 := tag_kind (same_kind ok2 ok3)
  have t34 := tag_kind (same_kind ok3 ok4)
  -- the four are of one kind
  refine ⟨_, rfl, q1, _, _, .str (tagS r1), rfl, rfl, SqT.of hq1, at_hd, _, rfl, q2, _, _, .str (tagS r2), rfl, rfl, SqT.of hq2, at_hd, rfl, _, rfl, iteTd (by rw [t12]) ?_⟩
  refine ⟨_, rfl, q3, _, _, .str (tagS r3), rfl, rfl, SqT.of hq3, at_hd, rfl, _, rfl, iteTd (by rw [t23]) ?_⟩
  refine ⟨_, rfl, q4, _, _, .str (tagS r4), rfl, rfl, SqT.of hq4, at_hd, rfl, _, rfl, iteFn (by rw [t34]) ?_⟩
  cases r1 with
  | off days =>
    refine ⟨_, rfl, q1, _, _, .str "off", rfl, rfl, SqT.of hq1, at_hd, rfl, _, rfl, iteTd rfl ?_⟩
    refine ⟨_, rfl, _, rfl, _, rfl, _, _, _, _, rfl, qb, rss, tm, mo, false, rfl, rfl, rfl, rfl, hbk.mono s4y, h4, h24, htm0, htm1, hmo0, hmo2, fun b5 H5a s5a hb5 bk5 => ?_⟩
    have s5x := s4y.trans s5a
    refine ⟨_, rfl, _, rfl, _, _, _, rfl, b5, qs, q1, x, y, .off days, Fam rss tm mo false, rfl, rfl, rfl, bk5, by rw [List.length_map]; exact h4, s5x _ _ hqs, ho, ra14.mono s5a, off_fam ok1, fun H6a s6a => ?_⟩
    exact ⟨_, _, rfl, rfl, qT (Q := Q) rfl (k H6a)⟩
  | had c1 cut1 p1 =>
    cases r2 with
    | off days => exact (had_off ok1 ok2).elim
    | had c2 cut2 p2 =>
    cases r3 with
    | off days => exact (had_off ok1 ok3).elim
    | had c3 cut3 p3 =>
    cases r4 with
    | off days => exact (had_off ok1 ok4).elim
    | had c4 cut4 p4 =>
    obtain ⟨a11, a12, vs1, hq1, ha11, hcu1, ha12⟩ := ra14
    obtain ⟨a21, a22, vs2, hq2, ha21, hcu2, ha22⟩ := ra24
    obtain ⟨a31, a32, vs3, hq3, ha31, hcu3, ha32⟩ := ra34
    obtain ⟨a41, a42, vs4, hq4, ha41, hcu4, ha42⟩ := ra4
    have e2 : c2 = c1 * tm := great_eq htm0 hlt ok1 ok2
    have e4 : c4 = c3 + mo * (y - x) := more_eq hlt ok3 ok4
    refine ⟨_, rfl, q1, _, _, .str "had", rfl, rfl, SqT.of hq1, rfl, rfl, _, rfl, iteFd (by decide +kernel) ?_⟩
    refine ⟨_, rfl, q2, _, _, _, rfl, rfl, SqT.of hq2, rfl, _, rfl, q1, _, _, _, rfl, rfl, SqT.of hq1, rfl, _, rfl, _, _, rfl, rfl, .inr ⟨by omega, by omega⟩, rfl, _, rfl, iteFn (by rw [e2]) ?_⟩
    refine ⟨_, rfl, q4, _, _, _, rfl, rfl, SqT.of hq4, rfl, _, rfl, q3, _, _, _, rfl, rfl, SqT.of hq3, rfl, _, rfl, _, rfl, qs, _, _, _, rfl, rfl, SqT.of (s4y _ _ hqs), rfl, _, rfl, qs, _, _, _, rfl, rfl, SqT.of (s4y _ _ hqs), rfl, _, _, rfl, rfl, _, _, rfl, rfl, .inl ⟨by omega, by omega⟩, _, _, rfl, rfl, rfl, _, rfl, iteFn (by rw [e4]) ?_⟩
    -- the paper of the great ones
    have pl1 : p1.length < 15 := by
      have := ok1.2.1
      have := ho.le
      omega
    have pl3 : p3.length < 15 := by
      have := ok3.2.1
      have := ho.le
      omega
    refine ⟨_, rfl, q1, _, _, _, rfl, rfl, SqT.of hq1, rfl, a12, rfl, ⟨_, SqL.of ha12⟩, fun D1 hD1 => ?_⟩
    refine lc_list (K := K) (a := a12) (xs := p1.map V.int) (fun i Hc => Same H4b Hc ∧ Hc D1 = some (.lst (((p1.take i).map (· * tm)).map V.int)))
      ⟨snewR hD1, upd_same⟩ (fun i Hc _ ⟨s, _⟩ => SqL.of (s _ _ ha12)) ?_ ?_
    · rintro i z Hc hz ⟨g1, g2⟩
      obtain ⟨w1, hw1, rfl⟩ : ∃ w1, p1[i]? = some w1 ∧ z = V.int w1 := by
        rw [List.getElem?_map] at hz
        cases e : p1[i]? with
        | none => rw [e] at hz; cases hz
        | some y => rw [e] at hz; exact ⟨y, rfl, (Option.some.inj hz).symm⟩
      refine ⟨rfl, ?_⟩
      refine ⟨_, rfl, _, rfl, _, _, rfl, rfl, .inr ⟨by omega, by omega⟩, _, g2, by rw [List.length_map, List.length_map, List.length_take]; exact small15 (by omega), snew g1 hD1, ?_⟩
      rw [upd_same, List.take_succ, hw1, List.map_append, List.map_append]
      rfl
    rintro H5 ⟨g1, g2⟩
    rw [List.length_map, List.take_length] at g2
    refine nmG (σ' := [some (.ref s), some (.ref t), some (.int (2 + x1)), some (.int b), some (.ref qb), some (.ref qs), some (.int tm), some (.int mo), some (.ref q1), some (.ref q2), some (.ref q3), some (.ref q4), some (.ref D1), none]) rfl ?_
    have g1y := s4y.trans g1
    -- let by
    refine ⟨_, rfl, _, rfl, _, _, _, _, rfl, qb, rss, tm, 0, true, rfl, rfl, rfl, rfl, hbk.mono g1y, h4, h24, htm0, htm1, by omega, by omega, fun b5 H5a s5a hb5 bk5 => ?_⟩
    have s5g := g1.trans s5a
    have s5x := g1y.trans s5a
    refine ⟨_, rfl, _, rfl, q2, _, _, _, rfl, rfl, SqT.of (s5g _ _ hq2), rfl, _, rfl, q1, _, _, _, rfl, rfl, SqT.of (s5g _ _ hq1), rfl, _, rfl, by show 4 ≤ sizeLine; decide, fun tq htq => ?_⟩
    have s6 : Same H5a (upd H5a tq (.tup [.str "had", .int c2, .ref a11, .ref D1])) := snewR htq
    have s56 := s5g.trans s6
    refine ⟨_, _, _, rfl, b5, qs, tq, x, y, .had c2 cut1 (p1.map (· * tm)), Fam rss tm 0 true, rfl, rfl, rfl, bk5.mono s6, by rw [List.length_map]; exact h4, s6 _ _ (s5x _ _ hqs), ho, ⟨a11, D1, vs1, upd_same, s56 _ _ ha11, hcu1.mono fun _ _ => CuAt.kt (KT.of s56), s6 _ _ (s5a _ _ g2)⟩, by rw [e2]; exact great_ok htm0 ok1, fun H6 s66 => ?_⟩
    refine ⟨_, _, rfl, rfl, _, rfl, iteFn rfl ?_⟩
    -- the paper of the ones with more
    have s46 : Same H4b H6 := s56.trans s66
    refine ⟨_, rfl, q3, _, _, _, rfl, rfl, SqT.of (s46 _ _ hq3), rfl, a32, rfl, ⟨_, SqL.of (s46 _ _ ha32)⟩, fun D2 hD2 => ?_⟩
    refine lc_list (K := K) (a := a32) (xs := p3.map V.int) (fun i Hc => Same H6 Hc ∧ Hc D2 = some (.lst (((p3.take i).map (· + mo)).map V.int)))
      ⟨snewR hD2, upd_same⟩ (fun i Hc _ ⟨s, _⟩ => SqL.of (s _ _ (s46 _ _ ha32))) ?_ ?_
    · rintro i z Hc hz ⟨g3, g4⟩
      obtain ⟨w1, hw1, rfl⟩ : ∃ w1, p3[i]? = some w1 ∧ z = V.int w1 := by
        rw [List.getElem?_map] at hz
        cases e : p3[i]? with
        | none => rw [e] at hz; cases hz
        | some y => rw [e] at hz; exact ⟨y, rfl, (Option.some.inj hz).symm⟩
      refine ⟨rfl, ?_⟩
      refine ⟨_, rfl, _, rfl, _, _, rfl, rfl, _, g4, by rw [List.length_map, List.length_map, List.length_take]; exact small15 (by omega), snew g3 hD2, ?_⟩
      rw [upd_same, List.take_succ, hw1, List.map_append, List.map_append]
      rfl
    rintro H7 ⟨g3, g4⟩
    rw [List.length_map, List.take_length] at g4
    refine nmG (σ' := [some (.ref s), some (.ref t), some (.int (2 + x1)), some (.int b), some (.ref qb), some (.ref qs), some (.int tm), some (.int mo), some (.ref q1), some (.ref q2), some (.ref q3), some (.ref q4), some (.ref D2), none]) rfl ?_
    have s47 := s46.trans g3
    have s87 := s4y.trans s47
    refine ⟨_, rfl, _, rfl, _, _, _, _, rfl, qb, rss, 1, mo, false, rfl, rfl, rfl, rfl, hbk.mono s87, h4, h24, by omega, by omega, hmo0, hmo2, fun b7 H7a s7a hb7 bk7 => ?_⟩
    have s7g := s47.trans s7a
    have s7x := s87.trans s7a
    refine ⟨_, rfl, _, rfl, q4, _, _, _, rfl, rfl, SqT.of (s7g _ _ hq4), rfl, _, rfl, q3, _, _, _, rfl, rfl, SqT.of (s7g _ _ hq3), rfl, _, rfl, by show 4 ≤ sizeLine; decide, fun tq2 htq2 => ?_⟩
    have s8 : Same H7a (upd H7a tq2 (.tup [.str "had", .int c4, .ref a31, .ref D2])) := snewR htq2
    have s78 := s7g.trans s8
    refine ⟨_, _, _, rfl, b7, qs, tq2, x, y, .had c4 cut3 (p3.map (· + mo)), Fam rss 1 mo false, rfl, rfl, rfl, bk7.mono s8, by rw [List.length_map]; exact h4, s8 _ _ (s7x _ _ hqs), ho, ⟨a31, D2, vs3, upd_same, s78 _ _ ha31, hcu3.mono fun _ _ => CuAt.kt (KT.of s78), s8 _ _ (s7a _ _ g4)⟩, by rw [e4]; exact more_ok hlt ok3, fun H8a s88a => ?_⟩
    exact ⟨_, _, rfl, rfl, qT (Q := Q) rfl (k H8a)⟩

end
end Stp
namespace Stp
open PySem PySem.Spec PyProof.Rows L2
def fnA : List He.DefD := [
  ⟨("is_whole", none), "is_whole", "is_whole", defArgs sIsWhole, defBody sIsWhole, defScope sIsWhole, [], []⟩,
  ⟨("is_day", none), "is_day", "is_day", defArgs sIsDay, defBody sIsDay, defScope sIsDay, [], []⟩,
  ⟨("is_two_days", none), "is_two_days", "is_two_days", defArgs sIsTwoDays, defBody sIsTwoDays, defScope sIsTwoDays, [], []⟩,
  ⟨("is_stretch", none), "is_stretch", "is_stretch", defArgs sIsStretch, defBody sIsStretch, defScope sIsStretch, [], []⟩,
  ⟨("is_stay", none), "is_stay", "is_stay", defArgs sIsStay, defBody sIsStay, defScope sIsStay, [], []⟩,
  ⟨("nights_of", none), "nights_of", "nights_of", defArgs sNightsOf, defBody sNightsOf, defScope sNightsOf, [], []⟩,
  ⟨("marked", none), "marked", "marked", defArgs sMarked, defBody sMarked, defScope sMarked, [], []⟩,
  ⟨("bill", none), "bill", "bill", defArgs sBill, defBody sBill, defScope sBill, [], []⟩,
  ⟨("can_be_had", none), "can_be_had", "can_be_had", defArgs sCanBeHad, defBody sCanBeHad, defScope sCanBeHad, [], []⟩,
  ⟨("coins_of", none), "coins_of", "coins_of", defArgs sCoinsOf, defBody sCoinsOf, defScope sCoinsOf, [], []⟩,
  ⟨("cost", none), "cost", "cost", defArgs sCost, defBody sCost, defScope sCost, [], []⟩,
  ⟨("parts_from", none), "parts_from", "parts_from", defArgs sPartsFrom, defBody sPartsFrom, defScope sPartsFrom, [], []⟩,
  ⟨("ways", none), "ways", "ways", defArgs sWays, defBody sWays, defScope sWays, [], []⟩,
  ⟨("cut_by", none), "cut_by", "cut_by", defArgs sCutBy, defBody sCutBy, defScope sCutBy, [], []⟩,
  ⟨("paper_by", none), "paper_by", "paper_by", defArgs sPaperBy, defBody sPaperBy, defScope sPaperBy, [], []⟩,
  ⟨("best", none), "best", "best", defArgs sBest, defBody sBest, defScope sBest, [], []⟩,
  ⟨("is_coins", none), "is_coins", "is_coins", defArgs sIsCoins, defBody sIsCoins, defScope sIsCoins, [], []⟩,
  ⟨("is_nights", none), "is_nights", "is_nights", defArgs sIsNights, defBody sIsNights, defScope sIsNights, [], []⟩,
  ⟨("made", none), "made", "made", defArgs sMade, defBody sMade, defScope sMade, [], []⟩,
  ⟨("rule_of", none), "rule_of", "rule_of", defArgs sRuleOf, defBody sRuleOf, defScope sRuleOf, [], []⟩,
  ⟨("usual", none), "usual", "usual", defArgs sUsual, defBody sUsual, defScope sUsual, [], []⟩,
  ⟨("is_part", none), "is_part", "is_part", defArgs sIsPart, defBody sIsPart, defScope sIsPart, [], []⟩,
  ⟨("is_cut", none), "is_cut", "is_cut", defArgs sIsCut, defBody sIsCut, defScope sIsCut, [], []⟩,
  ⟨("priced_parts", none), "priced_parts", "priced_parts", defArgs sPricedParts, defBody sPricedParts, defScope sPricedParts, [], []⟩,
  ⟨("cost_of", none), "cost_of", "cost_of", defArgs sCostOf, defBody sCostOf, defScope sCostOf, [], []⟩,
  ⟨("is_paper", none), "is_paper", "is_paper", defArgs sIsPaper, defBody sIsPaper, defScope sIsPaper, [], []⟩,
  ⟨("is_shut", none), "is_shut", "is_shut", defArgs sIsShut, defBody sIsShut, defScope sIsShut, [], []⟩,
  ⟨("lets_by", none), "lets_by", "lets_by", defArgs sLetsBy, defBody sLetsBy, defScope sLetsBy, [], []⟩,
  ⟨("_law_tape", none), "_law_tape", "_law_tape", defArgs sLawTape, defBody sLawTape, defScope sLawTape, [], []⟩,
  ⟨("_law_draw", none), "_law_draw", "_law_draw", defArgs sLawDraw, defBody sLawDraw, defScope sLawDraw, [], []⟩,
  ⟨("_law_coins", none), "_law_coins", "_law_coins", defArgs sLawCoins, defBody sLawCoins, defScope sLawCoins, [], []⟩,
  ⟨("_law_worth", none), "_law_worth", "_law_worth", defArgs sLawWorth, defBody sLawWorth, defScope sLawWorth, [], []⟩,
  ⟨("_law_price_rules", none), "_law_price_rules", "_law_price_rules", defArgs sLawPriceRules, defBody sLawPriceRules, defScope sLawPriceRules, [], []⟩,
  ⟨("_law_other_rules", none), "_law_other_rules", "_law_other_rules", defArgs sLawOtherRules, defBody sLawOtherRules, defScope sLawOtherRules, [], []⟩,
  ⟨("_law_rules", none), "_law_rules", "_law_rules", defArgs sLawRules, defBody sLawRules, defScope sLawRules, [], []⟩,
  ⟨("_law_stay", none), "_law_stay", "_law_stay", defArgs sLawStay, defBody sLawStay, defScope sLawStay, [], []⟩,
  ⟨("_law_books", none), "_law_books", "_law_books", defArgs sLawBooks, defBody sLawBooks, defScope sLawBooks, [], []⟩,
  ⟨("_law_changed", none), "_law_changed", "_law_changed", defArgs sLawChanged, defBody sLawChanged, defScope sLawChanged, [], []⟩,
  ⟨("_law_books_of", none), "_law_books_of", "_law_books_of", defArgs sLawBooksOf, defBody sLawBooksOf, defScope sLawBooksOf, [], []⟩,
  ⟨("law", none), "law", "law", defArgs sLaw, defBody sLaw, defScope sLaw, [], []⟩]
def fnB : List He.DefD := [
  ⟨("Price", some "__init__"), "__init__", "Rule.__init__", defArgs cRule_init, defBody cRule_init, defScope cRule_init, [], []⟩,
  ⟨("Price", some "word"), "word", "Price.word", defArgs cPrice_word, defBody cPrice_word, defScope cPrice_word, [], []⟩,
  ⟨("Price", some "fits"), "fits", "Price.fits", defArgs cPrice_fits, defBody cPrice_fits, defScope cPrice_fits, [], []⟩,
  ⟨("Price", some "tells"), "tells", "Rule.tells", defArgs cRule_tells, defBody cRule_tells, defScope cRule_tells, [], []⟩,
  ⟨("Price", some "told"), "told", "Rule.told", defArgs cRule_told, defBody cRule_told, defScope cRule_told, [], []⟩,
  ⟨("Come", some "__init__"), "__init__", "Rule.__init__", defArgs cRule_init, defBody cRule_init, defScope cRule_init, [], []⟩,
  ⟨("Come", some "word"), "word", "Come.word", defArgs cCome_word, defBody cCome_word, defScope cCome_word, [], []⟩,
  ⟨("Come", some "fits"), "fits", "Come.fits", defArgs cCome_fits, defBody cCome_fits, defScope cCome_fits, [], []⟩,
  ⟨("Come", some "tells"), "tells", "Rule.tells", defArgs cRule_tells, defBody cRule_tells, defScope cRule_tells, [], []⟩,
  ⟨("Come", some "told"), "told", "Rule.told", defArgs cRule_told, defBody cRule_told, defScope cRule_told, [], []⟩,
  ⟨("Go", some "__init__"), "__init__", "Rule.__init__", defArgs cRule_init, defBody cRule_init, defScope cRule_init, [], []⟩,
  ⟨("Go", some "word"), "word", "Go.word", defArgs cGo_word, defBody cGo_word, defScope cGo_word, [], []⟩,
  ⟨("Go", some "fits"), "fits", "Go.fits", defArgs cGo_fits, defBody cGo_fits, defScope cGo_fits, [], []⟩,
  ⟨("Go", some "tells"), "tells", "Rule.tells", defArgs cRule_tells, defBody cRule_tells, defScope cRule_tells, [], []⟩,
  ⟨("Go", some "told"), "told", "Rule.told", defArgs cRule_told, defBody cRule_told, defScope cRule_told, [], []⟩,
  ⟨("Least", some "__init__"), "__init__", "Rule.__init__", defArgs cRule_init, defBody cRule_init, defScope cRule_init, [], []⟩,
  ⟨("Least", some "word"), "word", "Least.word", defArgs cLeast_word, defBody cLeast_word, defScope cLeast_word, [], []⟩,
  ⟨("Least", some "fits"), "fits", "Least.fits", defArgs cLeast_fits, defBody cLeast_fits, defScope cLeast_fits, [], []⟩,
  ⟨("Least", some "tells"), "tells", "Rule.tells", defArgs cRule_tells, defBody cRule_tells, defScope cRule_tells, [], []⟩,
  ⟨("Least", some "told"), "told", "Rule.told", defArgs cRule_told, defBody cRule_told, defScope cRule_told, [], []⟩,
  ⟨("Most", some "__init__"), "__init__", "Rule.__init__", defArgs cRule_init, defBody cRule_init, defScope cRule_init, [], []⟩,
  ⟨("Most", some "word"), "word", "Most.word", defArgs cMost_word, defBody cMost_word, defScope cMost_word, [], []⟩,
  ⟨("Most", some "fits"), "fits", "Most.fits", defArgs cMost_fits, defBody cMost_fits, defScope cMost_fits, [], []⟩,
  ⟨("Most", some "tells"), "tells", "Rule.tells", defArgs cRule_tells, defBody cRule_tells, defScope cRule_tells, [], []⟩,
  ⟨("Most", some "told"), "told", "Rule.told", defArgs cRule_told, defBody cRule_told, defScope cRule_told, [], []⟩,
  ⟨("Deal", some "__init__"), "__init__", "Rule.__init__", defArgs cRule_init, defBody cRule_init, defScope cRule_init, [], []⟩,
  ⟨("Deal", some "word"), "word", "Deal.word", defArgs cDeal_word, defBody cDeal_word, defScope cDeal_word, [], []⟩,
  ⟨("Deal", some "fits"), "fits", "Deal.fits", defArgs cDeal_fits, defBody cDeal_fits, defScope cDeal_fits, [], []⟩,
  ⟨("Deal", some "tells"), "tells", "Rule.tells", defArgs cRule_tells, defBody cRule_tells, defScope cRule_tells, [], []⟩,
  ⟨("Deal", some "told"), "told", "Rule.told", defArgs cRule_told, defBody cRule_told, defScope cRule_told, [], []⟩,
  ⟨("Fee", some "__init__"), "__init__", "Rule.__init__", defArgs cRule_init, defBody cRule_init, defScope cRule_init, [], []⟩,
  ⟨("Fee", some "word"), "word", "Fee.word", defArgs cFee_word, defBody cFee_word, defScope cFee_word, [], []⟩,
  ⟨("Fee", some "fits"), "fits", "Fee.fits", defArgs cFee_fits, defBody cFee_fits, defScope cFee_fits, [], []⟩,
  ⟨("Fee", some "tells"), "tells", "Rule.tells", defArgs cRule_tells, defBody cRule_tells, defScope cRule_tells, [], []⟩,
  ⟨("Fee", some "told"), "told", "Rule.told", defArgs cRule_told, defBody cRule_told, defScope cRule_told, [], []⟩,
  ⟨("Book", some "__init__"), "__init__", "Book.__init__", defArgs cBook_init, defBody cBook_init, defScope cBook_init, [.non], []⟩,
  ⟨("Book", some "rules"), "rules", "Book.rules", defArgs cBook_rules, defBody cBook_rules, defScope cBook_rules, [], []⟩,
  ⟨("Book", some "tells_of"), "tells_of", "Book.tells_of", defArgs cBook_tells_of, defBody cBook_tells_of, defScope cBook_tells_of, [], []⟩]
def fn : List He.DefD := fnA ++ fnB
def fa0 : List He.Fa := [.glo "is_whole", .glo "is_day", .glo "is_two_days", .glo "is_stretch", .glo "is_stay", .glo "nights_of", .glo "marked", .glo "bill", .glo "can_be_had", .glo "coins_of", .glo "cost", .glo "parts_from", .glo "ways", .glo "cut_by", .glo "paper_by", .glo "best", .glo "is_coins", .glo "is_nights", .glo "made", .glo "rule_of", .glo "usual", .glo "is_part", .glo "is_cut", .glo "priced_parts", .glo "cost_of", .glo "is_paper", .glo "is_shut", .glo "lets_by", .glo "_law_tape", .glo "_law_draw", .glo "_law_coins", .glo "_law_worth", .glo "_law_price_rules", .glo "_law_other_rules", .glo "_law_rules", .glo "_law_stay", .glo "_law_books", .glo "_law_changed", .glo "_law_books_of", .glo "law"]
def fa1 : List He.Fa := [.glo "Price", .cls "Price", .mkr "Price", .glo "Come", .cls "Come", .mkr "Come", .glo "Go", .cls "Go", .mkr "Go", .glo "Least", .cls "Least", .mkr "Least", .glo "Most", .cls "Most", .mkr "Most", .glo "Deal", .cls "Deal", .mkr "Deal", .glo "Fee", .cls "Fee", .mkr "Fee", .glo "Book", .cls "Book", .mkr "Book", .noat "Price" "first", .noat "Price" "last", .noat "Price" "worth", .meth "Price" "word", .meth "Price" "fits", .meth "Price" "tells", .meth "Price" "told", .noat "Come" "first", .noat "Come" "last", .noat "Come" "worth", .meth "Come" "word", .meth "Come" "fits", .meth "Come" "tells", .meth "Come" "told", .noat "Go" "first", .noat "Go" "last"]
def fa2 : List He.Fa := [.noat "Go" "worth", .meth "Go" "word", .meth "Go" "fits", .meth "Go" "tells", .meth "Go" "told", .noat "Least" "first", .noat "Least" "last", .noat "Least" "worth", .meth "Least" "word", .meth "Least" "fits", .meth "Least" "tells", .meth "Least" "told", .noat "Most" "first", .noat "Most" "last", .noat "Most" "worth", .meth "Most" "word", .meth "Most" "fits", .meth "Most" "tells", .meth "Most" "told", .noat "Deal" "first", .noat "Deal" "last", .noat "Deal" "worth", .meth "Deal" "word", .meth "Deal" "fits", .meth "Deal" "tells", .meth "Deal" "told", .noat "Fee" "first", .noat "Fee" "last", .noat "Fee" "worth", .meth "Fee" "word", .meth "Fee" "fits", .meth "Fee" "tells", .meth "Fee" "told", .noat "Book" "kept", .noat "Book" "newest", .meth "Book" "rules", .meth "Book" "tells_of", .int "LAST_DAY" 1000000, .int "MOST_NIGHTS" 14, .int "MOST_COINS" 1000000000000]
def fa3 : List He.Fa := [.int "MOST_RULES" 24, .glo "WORDS", .free "len", .free "isinstance", .free "int", .free "bool", .free "tuple", .free "list", .free "str", .free "range", .free "sorted", .free "sum", .free "max", .free "enumerate", .free "all", .free "any", .free "abs"]
def fa : List He.Fa := fa0 ++ fa1 ++ fa2 ++ fa3
def nm0 : List PySem.Str := [("LAST_DAY" : PySem.Str), ("MOST_NIGHTS" : PySem.Str), ("is_whole" : PySem.Str), ("is_day" : PySem.Str), ("is_two_days" : PySem.Str), ("is_stretch" : PySem.Str), ("is_stay" : PySem.Str), ("nights_of" : PySem.Str), ("StayError" : PySem.Str), ("NoRule" : PySem.Str), ("NotSold" : PySem.Str), ("Barred" : PySem.Str), ("TooMany" : PySem.Str), ("marked" : PySem.Str), ("bill" : PySem.Str), ("bars" : PySem.Str), ("can_be_had" : PySem.Str), ("coins_of" : PySem.Str), ("cost" : PySem.Str), ("parts_from" : PySem.Str), ("ways" : PySem.Str), ("cut_by" : PySem.Str), ("paper_by" : PySem.Str), ("best" : PySem.Str), ("WORDS" : PySem.Str)]
def nm1 : List PySem.Str := [("MOST_COINS" : PySem.Str), ("is_coins" : PySem.Str), ("is_nights" : PySem.Str), ("Rule" : PySem.Str), ("Price" : PySem.Str), ("Come" : PySem.Str), ("Go" : PySem.Str), ("Least" : PySem.Str), ("Most" : PySem.Str), ("Deal" : PySem.Str), ("Fee" : PySem.Str), ("made" : PySem.Str), ("rule_of" : PySem.Str), ("usual" : PySem.Str), ("MOST_RULES" : PySem.Str), ("Book" : PySem.Str), ("is_part" : PySem.Str), ("is_cut" : PySem.Str), ("priced_parts" : PySem.Str), ("cost_of" : PySem.Str), ("is_paper" : PySem.Str), ("is_shut" : PySem.Str), ("lets_by" : PySem.Str), ("_law_tape" : PySem.Str), ("_law_draw" : PySem.Str)]
def nm2 : List PySem.Str := [("_law_coins" : PySem.Str), ("_law_worth" : PySem.Str), ("_law_price_rules" : PySem.Str), ("_law_other_rules" : PySem.Str), ("_law_rules" : PySem.Str), ("_law_stay" : PySem.Str), ("_law_books" : PySem.Str), ("_law_changed" : PySem.Str), ("_law_books_of" : PySem.Str)]
def names : List PySem.Str := nm0 ++ nm1 ++ nm2
/-! ### the head's hook: facts, and the tuple of the words -/
def ex (K : PySem.W.Frag) : Bool := He.tupB K "WORDS" [.str "price", .str "come", .str "go", .str "least", .str "most", .str "deal", .str "fee"]
abbrev AlY : Type := He.AlD × Bool
def obsY (n : Nat) (g : Addr → Option Obj) : AlY := (He.obsD fa fn (He.frG g (He.asD g n)), ex (He.frG g (He.asD g n)))
structure SaysY (K : PySem.W.Frag) : Prop where
  d : He.SaysD fa fn K
  w : ex K = true
def hookY (n : Nat) : PySem.W.Hook where
  α := AlY
  obs := fun s => obsY n s.heap.get?
  val := fun _ => (He.valD fn, true)
  says := fun _ h => ∃ K : PySem.W.Frag, K.In h ∧ SaysY K
  of := fun _ _ e => ⟨_, He.frG_in, ⟨congrArg (fun z : AlY => z.1) e, congrArg (fun z : AlY => z.2) e⟩⟩
  keeps := fun _ _ _ ⟨K, hK, c⟩ k => ⟨K, PySem.W.Frag.In.keeps hK k, c⟩
theorem obsY_eq {n : Nat} {g : Addr → Option Obj} {s : Shared} (h : ∀ a, g a = s.heap.get? a) : obsY n g = (hookY n).obs s := by
  have e : g = s.heap.get? := funext h
  rw [e] <;> rfl
abbrev R : PySem.W.OpenRow := PySem.W.OpenLaw.row PySem.Challenge.rw_stayprice_k97_whole_dearer_by_as_much
abbrev hk : PySem.W.Hook := hookY 5
def ob (s : PySem.W.SharedT) : AlY := obsY 5 (HandSHeadRun.getT s)
theorem ob_eq (s : PySem.W.SharedT) : ob s = hk.obs s.abs := obsY_eq (HandSHeadRun.getT_eq s)
theorem run (w : World) : HandSHeadRun.RunEq R (PySem.W.view R.prog [68]) hk ob 12000 names w := by
  intro os
  kernel_rfl
theorem tx {K : PySem.W.Frag} {h : Heap} {mg : Str → Option Value} (X : K.In h) (G : h.Ns mainGlobals mg) (c : SaysY K) : Tx K mg where
  d_is_whole := ⟨He.glo_ok X G (c.d.fact 0 rfl), c.d.def_ 0 rfl⟩
  d_is_day := ⟨He.glo_ok X G (c.d.fact 1 rfl), c.d.def_ 1 rfl⟩
  d_is_two_days := ⟨He.glo_ok X G (c.d.fact 2 rfl), c.d.def_ 2 rfl⟩
  d_is_stretch := ⟨He.glo_ok X G (c.d.fact 3 rfl), c.d.def_ 3 rfl⟩
  d_is_stay := ⟨He.glo_ok X G (c.d.fact 4 rfl), c.d.def_ 4 rfl⟩
  d_nights_of := ⟨He.glo_ok X G (c.d.fact 5 rfl), c.d.def_ 5 rfl⟩
  d_marked := ⟨He.glo_ok X G (c.d.fact 6 rfl), c.d.def_ 6 rfl⟩
  d_bill := ⟨He.glo_ok X G (c.d.fact 7 rfl), c.d.def_ 7 rfl⟩
  d_can_be_had := ⟨He.glo_ok X G (c.d.fact 8 rfl), c.d.def_ 8 rfl⟩
  d_coins_of := ⟨He.glo_ok X G (c.d.fact 9 rfl), c.d.def_ 9 rfl⟩
  d_cost := ⟨He.glo_ok X G (c.d.fact 10 rfl), c.d.def_ 10 rfl⟩
  d_parts_from := ⟨He.glo_ok X G (c.d.fact 11 rfl), c.d.def_ 11 rfl⟩
  d_ways := ⟨He.glo_ok X G (c.d.fact 12 rfl), c.d.def_ 12 rfl⟩
  d_cut_by := ⟨He.glo_ok X G (c.d.fact 13 rfl), c.d.def_ 13 rfl⟩
  d_paper_by := ⟨He.glo_ok X G (c.d.fact 14 rfl), c.d.def_ 14 rfl⟩
  d_best := ⟨He.glo_ok X G (c.d.fact 15 rfl), c.d.def_ 15 rfl⟩
  d_is_coins := ⟨He.glo_ok X G (c.d.fact 16 rfl), c.d.def_ 16 rfl⟩
  d_is_nights := ⟨He.glo_ok X G (c.d.fact 17 rfl), c.d.def_ 17 rfl⟩
  d_made := ⟨He.glo_ok X G (c.d.fact 18 rfl), c.d.def_ 18 rfl⟩
  d_rule_of := ⟨He.glo_ok X G (c.d.fact 19 rfl), c.d.def_ 19 rfl⟩
  d_usual := ⟨He.glo_ok X G (c.d.fact 20 rfl), c.d.def_ 20 rfl⟩
  d_is_part := ⟨He.glo_ok X G (c.d.fact 21 rfl), c.d.def_ 21 rfl⟩
  d_is_cut := ⟨He.glo_ok X G (c.d.fact 22 rfl), c.d.def_ 22 rfl⟩
  d_priced_parts := ⟨He.glo_ok X G (c.d.fact 23 rfl), c.d.def_ 23 rfl⟩
  d_cost_of := ⟨He.glo_ok X G (c.d.fact 24 rfl), c.d.def_ 24 rfl⟩
  d_is_paper := ⟨He.glo_ok X G (c.d.fact 25 rfl), c.d.def_ 25 rfl⟩
  d_is_shut := ⟨He.glo_ok X G (c.d.fact 26 rfl), c.d.def_ 26 rfl⟩
  d_lets_by := ⟨He.glo_ok X G (c.d.fact 27 rfl), c.d.def_ 27 rfl⟩
  d_law_tape := ⟨He.glo_ok X G (c.d.fact 28 rfl), c.d.def_ 28 rfl⟩
  d_law_draw := ⟨He.glo_ok X G (c.d.fact 29 rfl), c.d.def_ 29 rfl⟩
  d_law_coins := ⟨He.glo_ok X G (c.d.fact 30 rfl), c.d.def_ 30 rfl⟩
  d_law_worth := ⟨He.glo_ok X G (c.d.fact 31 rfl), c.d.def_ 31 rfl⟩
  d_law_price_rules := ⟨He.glo_ok X G (c.d.fact 32 rfl), c.d.def_ 32 rfl⟩
  d_law_other_rules := ⟨He.glo_ok X G (c.d.fact 33 rfl), c.d.def_ 33 rfl⟩
  d_law_rules := ⟨He.glo_ok X G (c.d.fact 34 rfl), c.d.def_ 34 rfl⟩
  d_law_stay := ⟨He.glo_ok X G (c.d.fact 35 rfl), c.d.def_ 35 rfl⟩
  d_law_books := ⟨He.glo_ok X G (c.d.fact 36 rfl), c.d.def_ 36 rfl⟩
  d_law_changed := ⟨He.glo_ok X G (c.d.fact 37 rfl), c.d.def_ 37 rfl⟩
  d_law_books_of := ⟨He.glo_ok X G (c.d.fact 38 rfl), c.d.def_ 38 rfl⟩
  d_law := ⟨He.glo_ok X G (c.d.fact 39 rfl), c.d.def_ 39 rfl⟩
  k_Price := ⟨He.glo_ok X G (c.d.fact 40 rfl), He.cls_ok (c.d.fact 41 rfl), He.mkr_ok (c.d.fact 42 rfl)⟩
  k_Come := ⟨He.glo_ok X G (c.d.fact 43 rfl), He.cls_ok (c.d.fact 44 rfl), He.mkr_ok (c.d.fact 45 rfl)⟩
  k_Go := ⟨He.glo_ok X G (c.d.fact 46 rfl), He.cls_ok (c.d.fact 47 rfl), He.mkr_ok (c.d.fact 48 rfl)⟩
  k_Least := ⟨He.glo_ok X G (c.d.fact 49 rfl), He.cls_ok (c.d.fact 50 rfl), He.mkr_ok (c.d.fact 51 rfl)⟩
  k_Most := ⟨He.glo_ok X G (c.d.fact 52 rfl), He.cls_ok (c.d.fact 53 rfl), He.mkr_ok (c.d.fact 54 rfl)⟩
  k_Deal := ⟨He.glo_ok X G (c.d.fact 55 rfl), He.cls_ok (c.d.fact 56 rfl), He.mkr_ok (c.d.fact 57 rfl)⟩
  k_Fee := ⟨He.glo_ok X G (c.d.fact 58 rfl), He.cls_ok (c.d.fact 59 rfl), He.mkr_ok (c.d.fact 60 rfl)⟩
  k_Book := ⟨He.glo_ok X G (c.d.fact 61 rfl), He.cls_ok (c.d.fact 62 rfl), He.mkr_ok (c.d.fact 63 rfl)⟩
  m_Price_init := ⟨c.d.def_ 40 rfl⟩
  m_Price_word := ⟨c.d.def_ 41 rfl⟩
  M_Price_word := He.meth_ok (c.d.fact 67 rfl)
  m_Price_fits := ⟨c.d.def_ 42 rfl⟩
  M_Price_fits := He.meth_ok (c.d.fact 68 rfl)
  m_Price_tells := ⟨c.d.def_ 43 rfl⟩
  M_Price_tells := He.meth_ok (c.d.fact 69 rfl)
  m_Price_told := ⟨c.d.def_ 44 rfl⟩
  M_Price_told := He.meth_ok (c.d.fact 70 rfl)
  n_Price_first := He.noat_ok (c.d.fact 64 rfl)
  n_Price_last := He.noat_ok (c.d.fact 65 rfl)
  n_Price_worth := He.noat_ok (c.d.fact 66 rfl)
  m_Come_init := ⟨c.d.def_ 45 rfl⟩
  m_Come_word := ⟨c.d.def_ 46 rfl⟩
  M_Come_word := He.meth_ok (c.d.fact 74 rfl)
  m_Come_fits := ⟨c.d.def_ 47 rfl⟩
  M_Come_fits := He.meth_ok (c.d.fact 75 rfl)
  m_Come_tells := ⟨c.d.def_ 48 rfl⟩
  M_Come_tells := He.meth_ok (c.d.fact 76 rfl)
  m_Come_told := ⟨c.d.def_ 49 rfl⟩
  M_Come_told := He.meth_ok (c.d.fact 77 rfl)
  n_Come_first := He.noat_ok (c.d.fact 71 rfl)
  n_Come_last := He.noat_ok (c.d.fact 72 rfl)
  n_Come_worth := He.noat_ok (c.d.fact 73 rfl)
  m_Go_init := ⟨c.d.def_ 50 rfl⟩
  m_Go_word := ⟨c.d.def_ 51 rfl⟩
  M_Go_word := He.meth_ok (c.d.fact 81 rfl)
  m_Go_fits := ⟨c.d.def_ 52 rfl⟩
  M_Go_fits := He.meth_ok (c.d.fact 82 rfl)
  m_Go_tells := ⟨c.d.def_ 53 rfl⟩
  M_Go_tells := He.meth_ok (c.d.fact 83 rfl)
  m_Go_told := ⟨c.d.def_ 54 rfl⟩
  M_Go_told := He.meth_ok (c.d.fact 84 rfl)
  n_Go_first := He.noat_ok (c.d.fact 78 rfl)
  n_Go_last := He.noat_ok (c.d.fact 79 rfl)
  n_Go_worth := He.noat_ok (c.d.fact 80 rfl)
  m_Least_init := ⟨c.d.def_ 55 rfl⟩
  m_Least_word := ⟨c.d.def_ 56 rfl⟩
  M_Least_word := He.meth_ok (c.d.fact 88 rfl)
  m_Least_fits := ⟨c.d.def_ 57 rfl⟩
  M_Least_fits := He.meth_ok (c.d.fact 89 rfl)
  m_Least_tells := ⟨c.d.def_ 58 rfl⟩
  M_Least_tells := He.meth_ok (c.d.fact 90 rfl)
  m_Least_told := ⟨c.d.def_ 59 rfl⟩
  M_Least_told := He.meth_ok (c.d.fact 91 rfl)
  n_Least_first := He.noat_ok (c.d.fact 85 rfl)
  n_Least_last := He.noat_ok (c.d.fact 86 rfl)
  n_Least_worth := He.noat_ok (c.d.fact 87 rfl)
  m_Most_init := ⟨c.d.def_ 60 rfl⟩
  m_Most_word := ⟨c.d.def_ 61 rfl⟩
  M_Most_word := He.meth_ok (c.d.fact 95 rfl)
  m_Most_fits := ⟨c.d.def_ 62 rfl⟩
  M_Most_fits := He.meth_ok (c.d.fact 96 rfl)
  m_Most_tells := ⟨c.d.def_ 63 rfl⟩
  M_Most_tells := He.meth_ok (c.d.fact 97 rfl)
  m_Most_told := ⟨c.d.def_ 64 rfl⟩
  M_Most_told := He.meth_ok (c.d.fact 98 rfl)
  n_Most_first := He.noat_ok (c.d.fact 92 rfl)
  n_Most_last := He.noat_ok (c.d.fact 93 rfl)
  n_Most_worth := He.noat_ok (c.d.fact 94 rfl)
  m_Deal_init := ⟨c.d.def_ 65 rfl⟩
  m_Deal_word := ⟨c.d.def_ 66 rfl⟩
  M_Deal_word := He.meth_ok (c.d.fact 102 rfl)
  m_Deal_fits := ⟨c.d.def_ 67 rfl⟩
  M_Deal_fits := He.meth_ok (c.d.fact 103 rfl)
  m_Deal_tells := ⟨c.d.def_ 68 rfl⟩
  M_Deal_tells := He.meth_ok (c.d.fact 104 rfl)
  m_Deal_told := ⟨c.d.def_ 69 rfl⟩
  M_Deal_told := He.meth_ok (c.d.fact 105 rfl)
  n_Deal_first := He.noat_ok (c.d.fact 99 rfl)
  n_Deal_last := He.noat_ok (c.d.fact 100 rfl)
  n_Deal_worth := He.noat_ok (c.d.fact 101 rfl)
  m_Fee_init := ⟨c.d.def_ 70 rfl⟩
  m_Fee_word := ⟨c.d.def_ 71 rfl⟩
  M_Fee_word := He.meth_ok (c.d.fact 109 rfl)
  m_Fee_fits := ⟨c.d.def_ 72 rfl⟩
  M_Fee_fits := He.meth_ok (c.d.fact 110 rfl)
  m_Fee_tells := ⟨c.d.def_ 73 rfl⟩
  M_Fee_tells := He.meth_ok (c.d.fact 111 rfl)
  m_Fee_told := ⟨c.d.def_ 74 rfl⟩
  M_Fee_told := He.meth_ok (c.d.fact 112 rfl)
  n_Fee_first := He.noat_ok (c.d.fact 106 rfl)
  n_Fee_last := He.noat_ok (c.d.fact 107 rfl)
  n_Fee_worth := He.noat_ok (c.d.fact 108 rfl)
  m_Book_init := ⟨c.d.def_ 75 rfl⟩
  m_Book_rules := ⟨c.d.def_ 76 rfl⟩
  M_Book_rules := He.meth_ok (c.d.fact 115 rfl)
  m_Book_tells_of := ⟨c.d.def_ 77 rfl⟩
  M_Book_tells_of := He.meth_ok (c.d.fact 116 rfl)
  n_Book_kept := He.noat_ok (c.d.fact 113 rfl)
  n_Book_newest := He.noat_ok (c.d.fact 114 rfl)
  k_LAST_DAY := He.int_ok X G (c.d.fact 117 rfl)
  k_MOST_NIGHTS := He.int_ok X G (c.d.fact 118 rfl)
  k_MOST_COINS := He.int_ok X G (c.d.fact 119 rfl)
  k_MOST_RULES := He.int_ok X G (c.d.fact 120 rfl)
  k_WORDS := He.glo_ok X G (c.d.fact 121 rfl)
  words := fun H => He.tupB_ok c.w H
  b_len := He.free_ok X G (c.d.fact 122 rfl)
  b_isinstance := He.free_ok X G (c.d.fact 123 rfl)
  b_int := He.free_ok X G (c.d.fact 124 rfl)
  b_bool := He.free_ok X G (c.d.fact 125 rfl)
  b_tuple := He.free_ok X G (c.d.fact 126 rfl)
  b_list := He.free_ok X G (c.d.fact 127 rfl)
  b_str := He.free_ok X G (c.d.fact 128 rfl)
  b_range := He.free_ok X G (c.d.fact 129 rfl)
  b_sorted := He.free_ok X G (c.d.fact 130 rfl)
  b_sum := He.free_ok X G (c.d.fact 131 rfl)
  b_max := He.free_ok X G (c.d.fact 132 rfl)
  b_enumerate := He.free_ok X G (c.d.fact 133 rfl)
  b_all := He.free_ok X G (c.d.fact 134 rfl)
  b_any := He.free_ok X G (c.d.fact 135 rfl)
  b_abs := He.free_ok X G (c.d.fact 136 rfl)
end Stp
namespace Stp
open PySem PySem.Spec PyProof.Rows L2
theorem facts {P : Program} {w : World} {K : PySem.W.Frag} {h : Heap} {mg : Str → Option Value} {f : Addr} (X : K.In h) (G : h.Ns mainGlobals mg) (hfa : mg ("law" : Str) = some (.ref f)) (c : SaysY K) :
    ∃ fd : FuncData, (∀ (s : Shared) (v : Value), BindsTo s fd ⟨[v], []⟩ [("_law_script", v)]) ∧ ∀ base : Heap, K.In base → base.Ns mainGlobals mg → FnOk P w K mg base CX0 9 f fd ["_law_script"] (sp_law K) := by
  have T := tx X G c
  obtain ⟨g, fd, F⟩ := T.d_law
  have e := hfa.symm.trans g
  cases e
  have b := FunD.bindsA (ps := ["_law_script"]) F fun _ _ _ _ _ _ us hl => match us, hl with | [_], _ => rfl
  exact ⟨fd, fun s v => b s [v] rfl, fun base _ _ => ok_law T F⟩
end Stp
open PySem PySem.W PySem.Calls PyProof.Rows
set_option maxRecDepth 100000 in
set_option maxHeartbeats 0 in
theorem PySem.Challenge.cw_stayprice_k97_whole_dearer_by_as_much_holds : PySem.Challenge.rw_stayprice_k97_whole_dearer_by_as_much.Holds := by
  w_on; o_law
  refine HandSHeadRun.head_any (r := OpenLaw.row PySem.Challenge.rw_stayprice_k97_whole_dearer_by_as_much) (q := view (OpenLaw.row PySem.Challenge.rw_stayprice_k97_whole_dearer_by_as_much).prog [68]) (H := Stp.hk) (ob := Stp.ob) (M := 12000) (loose := Stp.names) (d := HandSHeadRun.topDef (OpenLaw.row PySem.Challenge.rw_stayprice_k97_whole_dearer_by_as_much).prog 68) (kwd := []) Stp.ob_eq
    (by kernel_rfl) (fun s => by kernel_rfl) Stp.run (by kernel_rfl) (by kernel_rfl) (by kernel_rfl) (by rfl) (by first | assumption | decide +kernel) (by decide +kernel) ⟨rfl, rfl, rfl, rfl, rfl, by decide +kernel⟩ ?hw ?hc
  case hw => w_witness2
  case hc =>
    refine L2.walk_ofE (l := PySem.Challenge.rw_stayprice_k97_whole_dearer_by_as_much) (n := 63) (k := 9) (x := "_law_script") (CX := L2.CX0) rfl (by decide) (by kernel_rfl) ⟨rfl, by decide, by decide⟩ ?F (fun _ _ _ _ z => z)
    intro w mg fa h Y G hmg0
    obtain ⟨K, KX, c⟩ := Y
    have hmg : mg ("law" : PySem.Str) = some (.ref fa) := by
      have e : (HandSHeadRun.topDef (OpenLaw.row PySem.Challenge.rw_stayprice_k97_whole_dearer_by_as_much).prog 68).name = ("law" : PySem.Str) := by kernel_rfl
      rw [← e]
      exact hmg0
    obtain ⟨fd, hb, hF⟩ := Stp.facts (P := (PySem.Challenge.rw_stayprice_k97_whole_dearer_by_as_much).prog) (w := w) KX G hmg c
    exact ⟨K, fd, Stp.sp_law K, KX, hb, fun H a ns hl _ hS => ⟨_, rfl, a, ns, rfl, hS, hl, fun _ => rfl⟩, hF⟩
