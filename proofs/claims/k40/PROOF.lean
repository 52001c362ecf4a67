import PyProof.Rows.All
import Wide.All
import OpenK.AllK
import Wide.FinOn
import HandS.Words
import HandS.ForMost
import HandS.ForExc
import HandS.Walk
import HandS.Lambda
import HandS.ExcInit
import HandS.ExcField
import HandS.TryMany
import HandS.Head0
import HandS.Head1
import HandS.Head2
import HandS.HeadHook1
import HandS.HeadHook2
import HandS.HeadHook3
import HandS.HeadHook4
import HandS.HeadNt
import KE.DataMinMax
import KE.GoesMore
import KE.GoesEnum
import KE.SortData
import HandS.Style
import HandS.TupAny
import HandS.TupMul
import KE.KDictSum
import HandS.Conv
import HandS.Zip
import HandS.Rev
import HandS.RevRange
import PyProof.Draws
import PyProof.EnumMake
import HandS.IsInst
import HandS.WordsExc
import HandS.Nested
import HandS.Deep
import HandS.EndTab
import HandS.Dict
import KE.KDictKeyed
import KE.KeyNested
import PyProof.Rows.RegFStrParts
import HandS.HeadEnd
import PySem.Challenge.RW_stairyard_k40_whole_further_asks_and_lac
section
set_option Elab.async false
set_option linter.all false
set_option maxRecDepth 100000
/-! The program's defs by their places (printed by wip/gen_text.py). -/
namespace K40
open PySem L2
def topS (i : Nat) : Stmt := PySem.Challenge.pw_stairyard_k40_whole_further_asks_and_lac.main.body.getD i (.Pass ⟨0, 0, 0, 0⟩)
abbrev sBadUnitsInit : Stmt := inClass (topS 2) 0
abbrev sBadRowInit : Stmt := inClass (topS 3) 0
abbrev sBadPlanInit : Stmt := inClass (topS 4) 0
abbrev sTooGreatInit : Stmt := inClass (topS 5) 0
abbrev sIsFrom : Stmt := topS 9
abbrev sNeedUnits : Stmt := topS 10
abbrev sIsRow : Stmt := topS 13
abbrev sNeedRow : Stmt := topS 14
abbrev sAdded : Stmt := topS 15
abbrev sLess : Stmt := topS 16
abbrev sStairFrom : Stmt := topS 17
abbrev sRowFrom : Stmt := topS 18
abbrev sUpStair : Stmt := topS 20
abbrev sDownStair : Stmt := topS 21
abbrev sLiesWithin : Stmt := topS 24
abbrev sIsEnough : Stmt := topS 25
abbrev sUnlikeOf : Stmt := topS 26
abbrev sKept : Stmt := topS 27
abbrev sGreatestOf : Stmt := topS 28
abbrev sGreaterOf : Stmt := topS 29
abbrev sPairsOf : Stmt := topS 30
abbrev sLeastStairs : Stmt := topS 31
abbrev sRowsOf : Stmt := topS 32
abbrev sLivesFrom : Stmt := topS 33
abbrev sHasForm : Stmt := topS 37
abbrev sIsStep : Stmt := topS 38
abbrev sPlacesIn : Stmt := topS 39
abbrev sNeedForms : Stmt := topS 40
abbrev sNeedPlan : Stmt := topS 41
abbrev sLives : Stmt := topS 42
abbrev sPlanStocks : Stmt := topS 43
abbrev sPlanLacks : Stmt := topS 44
abbrev sStillAsked : Stmt := topS 45
abbrev sWMixed : Stmt := topS 47
abbrev sWBegin : Stmt := topS 48
abbrev sWDraw : Stmt := topS 49
abbrev sWOf : Stmt := topS 50
abbrev sWSizes : Stmt := topS 51
abbrev sWRow : Stmt := topS 52
abbrev sWBeside : Stmt := topS 53
abbrev sWWithout : Stmt := topS 54
abbrev sWCuts : Stmt := topS 55
abbrev sWFits : Stmt := topS 56
abbrev sWLefts : Stmt := topS 57
abbrev sWLike : Stmt := topS 58
abbrev sWSmallUnits : Stmt := topS 59
abbrev sWSmallPlan : Stmt := topS 60
abbrev sWLive : Stmt := topS 61
abbrev sWCaught : Stmt := topS 62
abbrev sWChosen : Stmt := topS 63
abbrev sWRefusedRight : Stmt := topS 64
abbrev sWListRight : Stmt := topS 65
abbrev sWStockRight : Stmt := topS 66
abbrev sLaw : Stmt := topS 67
end K40
end
section
set_option Elab.async false
set_option linter.all false
set_option maxRecDepth 100000
set_option maxHeartbeats 4000000
/-! What stays, what a value stands for: rows and lists of rows. -/
namespace K40
open PySem PySem.Spec PyProof.Rows L2

/-- what a call leaves as it was: all tracked things but the tables of code objects and those told in B; the tables stay good -/
structure Gr (T : List (Addr × Str)) (B : List Addr) (H H' : Hp) : Prop where
  keep : ∀ b o, H b = some o → (∀ ps, o ≠ .tbl ps) → b ∉ B → H' b = some o
  tabs : LamX.Tabs T H → LamX.Tabs T H'
theorem Gr.refl {T : List (Addr × Str)} {B : List Addr} (H : Hp) : Gr T B H H := ⟨fun _ _ h _ _ => h, fun t => t⟩
theorem Gr.trans {T : List (Addr × Str)} {B : List Addr} {H H1 H2 : Hp} (a : Gr T B H H1) (b : Gr T B H1 H2) : Gr T B H H2 :=
  ⟨fun c o h n m => b.keep c o (a.keep c o h n m) n m, fun t => b.tabs (a.tabs t)⟩
theorem Gr.of {T : List (Addr × Str)} {B : List Addr} {H H' : Hp} (e : Same H H') : Gr T B H H' := ⟨fun b o h _ _ => e b o h, fun t => t.ext e⟩
theorem Gr.more {T : List (Addr × Str)} {B : List Addr} {H H' : Hp} (e : Gr T [] H H') : Gr T B H H' := ⟨fun b o h n _ => e.keep b o h n (by simp), e.tabs⟩
theorem Gr.tup {T : List (Addr × Str)} {H H' : Hp} (e : Gr T [] H H') {a : Addr} {xs : List V} (h : H a = some (.tup xs)) : H' a = some (.tup xs) := e.keep a _ h (fun _ z => by cases z) (by simp)
theorem Gr.lst {T : List (Addr × Str)} {H H' : Hp} (e : Gr T [] H H') {a : Addr} {xs : List V} (h : H a = some (.lst xs)) : H' a = some (.lst xs) := e.keep a _ h (fun _ z => by cases z) (by simp)
theorem same_new {H : Hp} {p : Addr} (hp : H p = none) (o : HO) : Same H (upd H p o) := fun b u e => by
  rw [upd_ne (ne_of_none e hp)]
  exact e

/-- a relation between the heaps under which tuples stay -/
def TupsStay (H H' : Hp) : Prop := ∀ b xs, H b = some (.tup xs) → H' b = some (.tup xs)
theorem TupsStay.of {H H' : Hp} (e : Same H H') : TupsStay H H' := fun b xs h => e b _ h
theorem TupsStay.gr {T : List (Addr × Str)} {H H' : Hp} (e : Gr T [] H H') : TupsStay H H' := fun b xs h => e.tup h
theorem TupsStay.trans {H H1 H2 : Hp} (a : TupsStay H H1) (b : TupsStay H1 H2) : TupsStay H H2 := fun c xs h => b c xs (a c xs h)

abbrev Row := List Int
/-- a tuple of ints -/
def TI (H : Hp) (v : V) (ns : Row) : Prop := ∃ a, v = .ref a ∧ H a = some (.tup (ns.map V.int))
theorem TI.mono {H H' : Hp} {v : V} {ns : Row} (h : TI H v ns) (e : TupsStay H H') : TI H' v ns := by
  obtain ⟨a, rfl, h⟩ := h
  exact ⟨a, rfl, e a _ h⟩
/-- values that are rows -/
abbrev Rws (H : Hp) : List V → List Row → Prop := Paired (TI H)
theorem Paired.mp' {α β : Type} {F G : α → β → Prop} : ∀ {l₁ : List α} {l₂ : List β}, Paired F l₁ l₂ → (∀ a b, F a b → G a b) → Paired G l₁ l₂
  | _, _, .nil, _ => .nil
  | _, _, .cons r t, f => .cons (f _ _ r) (Paired.mp' t f)
theorem Rws.mono {H H' : Hp} {vs : List V} {rs : List Row} (h : Rws H vs rs) (e : TupsStay H H') : Rws H' vs rs := Paired.mp' h fun _ _ q => q.mono e
theorem Paired.at {α β : Type} {F : α → β → Prop} : ∀ {l₁ : List α} {l₂ : List β}, Paired F l₁ l₂ → ∀ {i : Nat} {x : α}, l₁[i]? = some x → ∃ y, l₂[i]? = some y ∧ F x y
  | _, _, .nil, _, _, h => by simp at h
  | _, _, .cons r t, 0, _, h => by
    simp at h
    subst h
    exact ⟨_, rfl, r⟩
  | _, _, .cons r t, i + 1, _, h => by
    obtain ⟨y, h1, h2⟩ := Paired.at t (i := i) (by simpa using h)
    exact ⟨y, by simpa using h1, h2⟩
theorem Paired.at' {α β : Type} {F : α → β → Prop} : ∀ {l₁ : List α} {l₂ : List β}, Paired F l₁ l₂ → ∀ {i : Nat} {y : β}, l₂[i]? = some y → ∃ x, l₁[i]? = some x ∧ F x y
  | _, _, .nil, _, _, h => by simp at h
  | _, _, .cons r t, 0, _, h => by
    simp at h
    subst h
    exact ⟨_, rfl, r⟩
  | _, _, .cons r t, i + 1, _, h => by
    obtain ⟨y, h1, h2⟩ := Paired.at' t (i := i) (by simpa using h)
    exact ⟨y, by simpa using h1, h2⟩
theorem Paired.app {α β : Type} {F : α → β → Prop} : ∀ {l₁ : List α} {l₂ : List β} {m₁ : List α} {m₂ : List β}, Paired F l₁ l₂ → Paired F m₁ m₂ → Paired F (l₁ ++ m₁) (l₂ ++ m₂)
  | _, _, _, _, .nil, h => h
  | _, _, _, _, .cons r t, h => .cons r (Paired.app t h)
/-- a list of rows at a -/
def LR (H : Hp) (v : V) (rs : List Row) : Prop := ∃ a vs, v = .ref a ∧ H a = some (.lst vs) ∧ Rws H vs rs
/-- a tuple of rows -/
def TR (H : Hp) (v : V) (rs : List Row) : Prop := ∃ a vs, v = .ref a ∧ H a = some (.tup vs) ∧ Rws H vs rs
theorem LR.gr {T : List (Addr × Str)} {H H' : Hp} {v : V} {rs : List Row} (h : LR H v rs) (e : Gr T [] H H') : LR H' v rs := by
  obtain ⟨a, vs, rfl, h, q⟩ := h
  exact ⟨a, vs, rfl, e.lst h, q.mono (.gr e)⟩
theorem LR.same {H H' : Hp} {v : V} {rs : List Row} (h : LR H v rs) (e : Same H H') : LR H' v rs := by
  obtain ⟨a, vs, rfl, h, q⟩ := h
  exact ⟨a, vs, rfl, e _ _ h, q.mono (.of e)⟩
theorem TR.mono {H H' : Hp} {v : V} {rs : List Row} (h : TR H v rs) (e : TupsStay H H') : TR H' v rs := by
  obtain ⟨a, vs, rfl, h, q⟩ := h
  exact ⟨a, vs, rfl, e _ _ h, q.mono e⟩
/-- as data -/
def rowD (r : Row) : PyData := .tuple (r.map .int)
theorem dpAll_ints {K : PySem.W.Frag} {H : Hp} : ∀ ns : List Int, DpAll K H (ns.map V.int) (ns.map PyData.int)
  | [] => .nil
  | n :: ns => .cons (.int n) (dpAll_ints ns)
theorem TI.dp {K : PySem.W.Frag} {H : Hp} {v : V} {ns : Row} (h : TI H v ns) : Dp K H v (rowD ns) := by
  obtain ⟨a, rfl, h⟩ := h
  exact .tup (SqT.of h) (dpAll_ints ns)
theorem Rws.dp {K : PySem.W.Frag} {H : Hp} : ∀ {vs : List V} {rs : List Row}, Rws H vs rs → DpAll K H vs (rs.map rowD)
  | _, _, .nil => .nil
  | _, _, .cons r t => .cons r.dp (Rws.dp t)
theorem LR.dp {K : PySem.W.Frag} {H : Hp} {v : V} {rs : List Row} (h : LR H v rs) : Dp K H v (.list (rs.map rowD)) := by
  obtain ⟨a, vs, rfl, h, q⟩ := h
  exact .lst (SqL.of h) q.dp
theorem TR.dp {K : PySem.W.Frag} {H : Hp} {v : V} {rs : List Row} (h : TR H v rs) : Dp K H v (.tuple (rs.map rowD)) := by
  obtain ⟨a, vs, rfl, h, q⟩ := h
  exact .tup (SqT.of h) q.dp
end K40
end
section
set_option Elab.async false
set_option linter.all false
set_option autoImplicit false
set_option maxRecDepth 100000
set_option maxHeartbeats 4000000
/-! Exceptions: classes over a class of one's own; several named clauses. -/
namespace K40
open PySem PySem.Spec PyProof.Rows L2
/-! ### what the top must tell of a class -/
/-- an own exception class over ValueError, as ExcInit wants it -/
def oexB (K : PySem.W.Frag) (C : Addr) : Bool := match K.lookup C with
  | some ⟨.type "type", _, .cls cd, sl⟩ => (match cd.mro, sl.toList with
    | .ref C' :: bm, [_, _, _, _, some (.builtin n), _] => C' == C && n == "ValueError.__new__" && !cd.hasDel && cd.hasDict && PySem.HandSPX.refsVE bm
    | _, _ => false)
  | _ => false
/-- all that is asked of an own exception class -/
def excAll (K : PySem.W.Frag) (C : Addr) (fI : Addr) : Bool := oexB K C && (decide (PySem.W.findIn K (.ref C) "__setattr__" = some (some (.builtin "object.__setattr__"))) && (decide (PySem.W.subIn K (.ref C) (.type "BaseException") = some true) &&
  (decide (PySem.W.typeIn K (.ref C) = some (.type "type")) && (PySem.W.keepIn K (.ref C) && (decide (PySem.W.findIn K (.ref C) "__init__" = some (some (.ref fI))) && (decide (PySem.W.typeIn K (.ref fI) = some (.type "function")) && L2.xfB K C))))))
/-- the class above them: its __init__ is that of ValueError -/
def yardB (K : PySem.W.Frag) (Y : Addr) : Bool := PySem.W.readsIn K Y (.type "type") && (decide (PySem.W.specialIn K (.ref Y) "__getattribute__" = some (some (.builtin "type.__getattribute__"))) &&
  (match PySem.W.findCls K (.ref Y) (.type "type") "__init__" with
    | some (.val (.builtin n)) => n == "ValueError.__init__"
    | _ => false))
structure YardC (K : PySem.W.Frag) (Y : Addr) : Prop where
  rd : PySem.W.readsIn K Y (.type "type") = true
  ga : PySem.W.specialIn K (.ref Y) "__getattribute__" = some (some (.builtin "type.__getattribute__"))
  ini : PySem.W.findCls K (.ref Y) (.type "type") "__init__" = some (.val (.builtin "ValueError.__init__"))
theorem yardB_ok {K : PySem.W.Frag} {Y : Addr} (h : yardB K Y = true) : YardC K Y := by
  obtain ⟨h1, h⟩ := Bool.and_eq_true_iff.mp h
  obtain ⟨h2, h3⟩ := Bool.and_eq_true_iff.mp h
  refine ⟨h1, of_decide_eq_true h2, ?_⟩
  split at h3
  · rename_i n e
    have en : n = "ValueError.__init__" := eq_of_beq h3
    rw [e, en]
  · cases h3
theorem oexB_ok {K : PySem.W.Frag} {C : Addr} (h : oexB K C = true) : ∃ nm q N bs bm sn sub ab col dd k0 k1 k2 k3 k5, K.lookup C = some (excClassObj nm q C N bs bm true sn sub ab col dd k0 k1 k2 k3 k5 "ValueError.__new__") ∧ PySem.HandSPX.refsVE bm = true := by
  unfold oexB at h
  split at h
  · rename_i dd cd sl e
    split at h
    · rename_i C' bm a0 a1 a2 a3 n a5 e1 e2
      simp only [Bool.and_eq_true, beq_iff_eq, Bool.not_eq_true'] at h
      obtain ⟨⟨⟨⟨hC, hn⟩, hdel⟩, hdict⟩, hr⟩ := h
      obtain ⟨nm, bs, mro, ns, qn, hd, sn, sub, ab, col, del⟩ := cd
      dsimp only at e1 hdel hdict
      subst e1 hdel hdict hn hC
      obtain ⟨l⟩ := sl
      simp only at e2
      subst e2
      exact ⟨nm, qn, ns, bs, bm, sn, sub, ab, col, dd, a0, a1, a2, a3, a5, e, hr⟩
    · cases h
  · cases h
/-- the class x at C, its __init__ at fI -/
structure ExcC (K : PySem.W.Frag) (C fI : Addr) : Prop where
  ox : OexC K C
  xf : XfC K C
  ini : PySem.W.findIn K (.ref C) "__init__" = some (some (.ref fI))
  tyI : PySem.W.typeIn K (.ref fI) = some (.type "function")
theorem excAll_ok {K : PySem.W.Frag} {C fI : Addr} (h : excAll K C fI = true) : ExcC K C fI := by
  obtain ⟨h1, h⟩ := Bool.and_eq_true_iff.mp h
  obtain ⟨h2, h⟩ := Bool.and_eq_true_iff.mp h
  obtain ⟨h3, h⟩ := Bool.and_eq_true_iff.mp h
  obtain ⟨h4, h⟩ := Bool.and_eq_true_iff.mp h
  obtain ⟨h5, h⟩ := Bool.and_eq_true_iff.mp h
  obtain ⟨h6, h⟩ := Bool.and_eq_true_iff.mp h
  obtain ⟨h7, h8⟩ := Bool.and_eq_true_iff.mp h
  exact ⟨⟨oexB_ok h1, of_decide_eq_true h2, of_decide_eq_true h3, of_decide_eq_true h4, h5⟩, xfB_ok h8, of_decide_eq_true h6, of_decide_eq_true h7⟩

/-- a reading that wishes more than what is asked -/
def tMono (te : TE) : TE := fun σ H Q => ∃ R : VK, te σ H R ∧ ∀ v H', R v H' → Q v H'
theorem pe_mono {X : Cx} {e : Expr} {te : TE} (h : PE X e te) : PE X e (tMono te) := ⟨fun pins s σ H Q I ⟨R, q, k⟩ => thn (h.run pins s σ H R I q) fun _ _ ⟨v, H', J, r, z⟩ => ⟨v, H', J, r, k v H' z⟩⟩
/-! ### Y.__init__(self, ..), Y over ValueError -/
section
variable {X : Cx} {e : Expr} {es : List Expr} {te : TE} {ta : TA} {x : Str} {p p1 p2 pos : Pos} {Y : Addr}
theorem pe_yinit {pl : Sem Bool} (T : YardC X.K Y) (hg : Gl X x) (hm : X.mg x = some (.ref Y)) (ha : PA X (e :: es) ta) (hdb : (x == ("__debug__" : Str)) = false := by decide)
    (hc : eval (.Call (.Attribute (.Name x p1) "__init__" p2) (e :: es) [] pos) X.env = (do
      let ov ← eval (.Name x p1) X.env
      standAt p2.atName
      let (f, first) ← holding [ov] (getMethod ov "__init__" pl)
      callWith pos f first (backTo pos (starEach (e :: es) X.env)) (backToKw pos (keywordEach [] X.env))) := by rfl)
    (he : starEach (e :: es) X.env = (false, eval e X.env) :: starEach es X.env := by rfl) (hpl : (backTo pos (starEach es X.env)).any (·.1) = false := by rfl) :
    PE X (.Call (.Attribute (.Name x p1) "__init__" p2) (e :: es) [] pos) (tVeI X.K ta) := by
  refine ⟨fun pins s σ H Q I h => ?_⟩
  refine PySem.W.methodCall_KW (ld_glob I hg hm ?_ hdb) hc
  refine PySem.W.method_cls I.kIn T.ga (PySem.W.cls_value I.kIn T.rd T.ini (by decide +kernel) ?_)
  show wpAny _ _ (callWith pos (Value.builtin "ValueError.__init__") [] (backTo pos (starEach (e :: es) X.env)) []) _ _ _
  refine PyProof.Rows.callWith_method1 (thn (ha.run pos pins _ σ H _ (I.tok _) h) fun us s1 ⟨vs, H1, I1, rv, a, C, ws, ev, hl, T', ea, q⟩ => ?_) he hpl
  subst ev
  cases rv with
  | @cons _ u0 _ ur r0 rr =>
    obtain rfl : u0 = Value.ref a := r0
    exact oinit_ok T' I1 ea (by rw [← Paired.length rr, sizeLine_eq]; omega) fun s' J => ⟨.non, H1, J, rfl, q⟩
/-- __init__(self, f): Y.__init__(self, '..'); self.f = f -/
def spInit (f : Str) (K : PySem.W.Frag) : Sp := fun vs H Q _ => ∃ (a C : Addr) (v : V), vs = [.ref a, v] ∧ OexC K C ∧ PySem.W.findIn K (.ref C) f = some none ∧ H a = some (exo a C none) ∧
  ∀ dx, H dx = none → dx ≠ a → Q .non (upd (upd H dx (exd dx [(f, v)])) a (exo a C (some dx)))
theorem spInit_len {f : Str} {K : PySem.W.Frag} : ∀ vs H Q E, spInit f K vs H Q E → vs.length = 2 := fun vs H Q E h => by
  obtain ⟨a, C, v, rfl, _⟩ := h
  rfl
/-- raise C(e): the error's own dict, new, holds f -/
def tRaiseC (C : Addr) (f : Str) (W : WX) (te : TE) : TS := fun _ σ H => te σ H fun v H1 => ∀ d, H1 d = none → W (.ref C) (some d) σ (upd H1 d (.xd [(f, v)]))
theorem ps_raiseC {W : WX} {C fI : Addr} {f : Str} {k : Nat} {fd : FuncData} {ps : List Str} {pos2 : Pos} (hc : X.calm = true) (tk : Takes X W) (T : ExcC X.K C fI) (hno : PySem.W.findIn X.K (.ref C) f = some none)
    (F1 : FnOk X.prog X.w X.K X.mg X.base CX0 k fI fd ps (spInit f X.K)) (hr : Room (k + 1) X.A) (hb : Binds X.K fd ps []) (hg : Gl X x) (hm : X.mg x = some (.ref C)) (ha : PE X e te)
    (hdb : (x == ("__debug__" : Str)) = false := by decide) (he : starEach (e :: []) X.env = (false, eval e X.env) :: starEach [] X.env := by rfl) (hpl : (backTo pos (starEach [] X.env)).any (·.1) = false := by rfl) :
    PS X (.Raise (some (.Call (.Name x p) [e] [] pos)) none pos2) (tRaiseC C f W te) := by
  refine ⟨fun pins s σ H D I h => ?_⟩
  refine (ps_raise hc tk (pmk_oex (ds := []) (dvs := []) T.ox T.ini T.tyI F1 hr hb .nil (fun _ _ _ _ _ _ _ z => z.elim) hg hm (pa_cons (pe_mono ha) pa_nil he) hdb he hpl)).run pins s σ H D I ?_
  refine ⟨_, h, fun v H1 q => ⟨by show 1 ≤ 1000; decide, fun a na => ⟨a, C, v, rfl, T.ox, hno, upd_same, fun dx ndx ne => ?_⟩⟩⟩
  have nd1 : H1 dx = none := by
    rw [upd_ne ne] at ndx
    exact ndx
  refine ⟨rfl, dx, [(f, v)], upd_same, ?_, nd1, ?_⟩
  · rw [upd_ne ne, upd_same]
  · have eh : upd (del (upd (upd (upd H1 a (exo a C none)) dx (exd dx [(f, v)])) a (exo a C (some dx))) a) dx (.xd [(f, v)]) = upd H1 dx (.xd [(f, v)]) := by
      funext b
      by_cases hb : b = dx
      · rw [hb, upd_same, upd_same]
      · rw [upd_ne hb, upd_ne hb]
        by_cases hba : b = a
        · rw [hba, del_same, na]
        · rw [del_ne hba, upd_ne hba, upd_ne hb, upd_ne hba]
    rw [eh]
    exact q dx nd1
end
/-! ### try with named clauses; an exception that comes is one of these (what clauses follow is not looked at) -/
def wNamed (K : PySem.W.Frag) (i : Nat) (D : Ends) : List (Value × (Addr → Value → Option Addr → TS)) → WX
  | [] => fun _ _ _ _ => False
  | (c, ts) :: r => fun cls d σ H => ∃ b, PySem.W.exmOne K cls c = some b ∧
      (b = true → ∀ a, H a = none → ts a cls d { nx := fun σ' H' => D.nx (σ'.set i none) H', rt := fun _ _ => False, bk := fun _ _ => False, ct := fun _ _ => False } (σ.set i (some (.ref a))) H) ∧
      (b = false → wNamed K i D r cls d σ H)
inductive Clauses (X : Cx) (n : Str) : List ExceptHandler → List (Value × (Addr → Value → Option Addr → TS)) → Prop
  | nil {hds : List ExceptHandler} : Clauses X n hds []
  | cons {x : Str} {c : Value} {ts : Addr → Value → Option Addr → TS} {b₀ : Stmt} {suite : List Stmt} {np pos' : Pos} {hds : List ExceptHandler} {l : List (Value × (Addr → Value → Option Addr → TS))} (hc : Names X x c)
      (hsu : ∀ (a : Addr) (oe : Obj) (cls : Value) (d : Option Addr) (pn : List (Addr × Obj)), Zc cls d oe → (∃ vs, oe.data = .fields vs) → PSs (X.suite a ((a, oe) :: pn)) (b₀ :: suite) (ts a cls d)) (r : Clauses X n hds l) :
      Clauses X n (.ExceptHandler (some (.Name x np)) (some n) (b₀ :: suite) pos' :: hds) ((c, ts) :: l)
section
variable {X : Cx} {n : Str} {i : Nat} {body : List Stmt} {h₀ : ExceptHandler} {hds : List ExceptHandler} {l : List (Value × (Addr → Value → Option Addr → TS))} {pos : Pos} {tb : WX → TS}
theorem ps_try_named (stk : X.stack = X.env :: X.outer) (fro : X.env.frame = some X.env.locals) (nodup : X.N.Nodup) (at_i : X.N[i]? = some n) (own : X.env.kindOf n = some .local)
    (walk : ∀ (W : WX) (pn : List (Addr × Obj)) (xe : Value → Shared → Prop), Takes (X.tr pn xe) W → PassesOwn (model X.prog X.w) X.A X.env xe → PSs (X.tr pn xe) body (tb W))
    (cl : Clauses X n (h₀ :: hds) l) : PS X (.Try body (h₀ :: hds) [] [] pos) (fun D σ H => tb (wNamed X.K i D l) D σ H) := by
  refine ⟨fun pins s σ H D I h => ?_⟩
  have okX := I.ok
  have frames : X.A.frames = some (X.env :: X.outer) := by rw [okX.frames, stk]
  refine wpAny_Try_except ?_
  let E' : Value → Shared → Prop := fun e t1 => wpAny (model X.prog X.w) X.A (noteFrame e X.env) (fun _ t2 => wpAny (model X.prog X.w) X.A (setFlight e none) (fun _ t3 =>
    wpAny (model X.prog X.w) X.A (handleBy e X.env (h₀ :: hds)) (SP X pins D) X.xe t3) X.xe t2) X.xe t1
  refine wpAny_mono ((walk (wNamed X.K i D l) (X.pn ++ pins) E' (fun u s' flown => ?_) PassesOwn.looking).run [] s σ H D (I.toTry _) h) (fun fl t1 done => ?_) (fun e t1 he => he)
  · obtain ⟨a, B, sI, pins', σ', H', cls, d, rfl, J0, nb, up, sky, na, os, ag, wish⟩ := flown
    have J : Inv X pins σ' H' sI := J0.ofTry okX
    have above : Sky B (X.env :: X.outer) a (Zc cls d) X.env.locals s'.heap := by rw [← stk]; exact sky
    show wpAny (model X.prog X.w) X.A (noteFrame (.ref a) X.env) _ _ _
    refine Sky.land Zc.steady frames fro above fun h3 fl3 up3 => ?_
    have J3 : Inv X pins σ' H' { s' with heap := h3 } := J.landed nb fl3.1 (up.trans up3) os ag
    obtain ⟨o3, v3, at3, z3, d3⟩ := fl3.there
    have outside : a ∉ frs (X.env :: X.outer) := fun m => by
      obtain ⟨_, o', e', nf⟩ := fl3.2.2.1.mem m
      rw [at3] at e'
      cases e'
      exact nf _ d3
    have notL : a ≠ X.env.locals := fun z => outside (List.mem_filterMap.mpr ⟨X.env, List.mem_cons_self, by rw [fro, z]⟩)
    have notF : a ∉ X.fs := fun m => by
      obtain ⟨e, me, q⟩ := List.mem_filterMap.mp m
      exact outside (List.mem_filterMap.mpr ⟨e, List.mem_cons_of_mem _ me, q⟩)
    have S3 := J3.suite at3 d3 na notL notF
    have typ : PySem.W.Looks (model X.prog X.w) h3 (typeOf (.ref a)) cls := fun A Q E s k q => wpAny_typeOf_ref (k _ _ at3) (by rw [z3.1]; exact q)
    have go : ∀ {hs' : List ExceptHandler} {l' : List (Value × (Addr → Value → Option Addr → TS))}, Clauses X n hs' l' → wNamed X.K i D l' cls d σ' H' →
        wpAny (model X.prog X.w) X.A (handleBy (.ref a) X.env hs') (SP X pins D) X.xe { s' with heap := h3 } := by
      intro hs' l' k
      induction k with
      | nil => exact fun z => z.elim
      | @cons x c ts b₀ suite np pos' hds2 l2 nm su r ih =>
        rintro ⟨b, match_, yes, no⟩
        refine wpAny_handleBy_cons (codeAny_handlers_test ?_) (by intro q; cases q)
        have found := PySem.W.exm_one (M := model X.prog X.w) J3.kIn typ match_
        have read : ∀ {Q : Value → Shared → Prop} {E : Value → Shared → Prop}, Q c { s' with heap := h3 } → wpAny (model X.prog X.w) (X.A.mark (some (.ref a))) (eval (.Name x np) X.env) Q E { s' with heap := h3 } := fun {Q E} q => by
          obtain ⟨gl, dbg, hm | ⟨hm, hv, hn⟩⟩ := nm
          · exact ld_glob (X := X.suite a ((a, o3) :: (X.pn ++ pins))) S3 gl hm q dbg
          · exact ld_blt (X := X.suite a ((a, o3) :: (X.pn ++ pins))) S3 gl hm hv q hn dbg
        refine read (found.here ?_)
        cases b with
        | false => exact ih (no rfl)
        | true =>
          refine codeAny_handlers_suite_as ?_
          refine HandSPX.lands_againZ fl3 fun h4 fl4 up4 => ?_
          have J4 : Inv X pins σ' H' { s' with heap := h4 } := J.landed nb fl4.1 ((up.trans up3).trans up4) os ag
          obtain ⟨o4, v4, at4, z4, d4⟩ := fl4.there
          refine store_ok (X := X.suite a ((a, o4) :: (X.pn ++ pins))) (v := .ref a) (J4.suite at4 d4 na notL notF) nodup at_i (.inl own) rfl (fun s5 S5 => ?_) (.inr own)
          refine wpAny_mono ((su a o4 cls d (X.pn ++ pins) z4 ⟨_, d4⟩).run [] s5 _ H' _ S5 (yes rfl a na)) (fun fl s6 end_ => ?_) (fun _ _ z => False.elim z)
          cases fl with
          | next =>
            obtain ⟨σ6, H6, S6, q6⟩ := end_
            exact gone_ok (S6.unsuite okX) nodup at_i own fun s7 J7 => ⟨_, _, J7, q6⟩
          | brk => obtain ⟨_, _, _, z⟩ := end_; exact z.elim
          | cont => obtain ⟨_, _, _, z⟩ := end_; exact z.elim
          | ret u => obtain ⟨_, _, _, _, _, z⟩ := end_; exact z.elim
    exact go cl wish
  · cases fl with
    | next => obtain ⟨σ', H', J', q⟩ := done; exact wpAny_execs_nil ⟨σ', H', J'.ofTry okX, q⟩
    | brk => obtain ⟨σ', H', J', q⟩ := done; exact ⟨σ', H', J'.ofTry okX, q⟩
    | cont => obtain ⟨σ', H', J', q⟩ := done; exact ⟨σ', H', J'.ofTry okX, q⟩
    | ret u => obtain ⟨v, σ', H', J', r, q⟩ := done; exact ⟨v, σ', H', J'.ofTry okX, r, q⟩
end
end K40
end
section
set_option Elab.async false
set_option linter.all false
set_option autoImplicit false
set_option maxRecDepth 100000
/-! HeadHook4's Hook with the interpreter's own statics beside (readsIn looks there). -/
namespace K40
open PySem PySem.Spec PyProof.Rows L2
/-- what stands within n steps of the names, and the statics -/
def kY (n : Nat) (g : Addr → Option Obj) : PySem.W.Frag := He.frT g (He.asD g n ++ [cStatics])
def obsY (n : Nat) (fa : List He.Fa) (fn : List He.DefD) (tf : List He.Defn) (ex : PySem.W.Frag → Bool) (g : Addr → Option Obj) : He.AlX := (He.obsT fa fn [] (kY n g), ex (kY n g) && He.tabsB g tf (kY n g))
theorem saysY {n : Nat} {fa : List He.Fa} {fn : List He.DefD} {tf : List He.Defn} {ex : PySem.W.Frag → Bool} {w : World} {h : Heap} (e : obsY n fa fn tf ex h.get? = He.valX fn [] w) : He.SaysX fa fn [] tf ex w h (kY n h.get?) := by
  have left : He.obsT fa fn [] (kY n h.get?) = He.valT fn [] w := congrArg Prod.fst e
  have right : (ex (kY n h.get?) && He.tabsB h.get? tf (kY n h.get?)) = true := congrArg Prod.snd e
  rw [Bool.and_eq_true] at right
  have each : ∀ p ∈ tf, PySem.W.codeHdIn (kY n h.get?) (He.cT (kY n h.get?) p).1 (He.cT (kY n h.get?) p).2 = true ∧ ∃ o, h.get? (He.cT (kY n h.get?) p).2 = some o ∧ He.emptyTab o = true := by
    intro p hp
    have q := List.all_eq_true.mp right.2 p hp
    rw [Bool.and_eq_true] at q
    refine ⟨q.1, ?_⟩
    have z := q.2
    split at z
    · rename_i o eo
      exact ⟨o, eo, z⟩
    · cases z
  refine ⟨left, right.1, fun p hp => (each p hp).1, fun p hp => ?_, fun p hp => ?_⟩
  · obtain ⟨_, o, q, z⟩ := each p hp
    exact He.frT_none q z
  · obtain ⟨_, o, q, z⟩ := each p hp
    rw [q, He.emptyTab_eq z]
def hookY (n : Nat) (fa : List He.Fa) (fn : List He.DefD) (tf : List He.Defn) (ex : PySem.W.Frag → Bool) : PySem.W.Hook where
  α := He.AlX
  obs := fun s => obsY n fa fn tf ex s.heap.get?
  val := fun w => He.valX fn [] w
  says := fun w h => ∃ K : PySem.W.Frag, K.In h ∧ He.SaysX fa fn [] tf ex w h K
  of := fun _ _ e => ⟨_, He.frT_in, saysY e⟩
  keeps := fun _ _ _ ⟨K, hK, c⟩ k => ⟨K, PySem.W.Frag.In.keeps hK k, { t := c.t, more := c.more, hd := c.hd, out := c.out, empty := fun p hp => k _ _ (c.empty p hp) }⟩
theorem obsY_eq {n : Nat} {fa : List He.Fa} {fn : List He.DefD} {tf : List He.Defn} {ex : PySem.W.Frag → Bool} {g : Addr → Option Obj} {s : Shared} (h : ∀ a, g a = s.heap.get? a) : obsY n fa fn tf ex g = (hookY n fa fn tf ex).obs s := by
  have e : g = s.heap.get? := funext h
  rw [e]
  rfl
end K40
end
section
set_option Elab.async false
set_option linter.all false
set_option maxRecDepth 100000
set_option maxHeartbeats 0
/-! The head: what the program's top leaves, told by facts. -/
namespace K40
open PySem PySem.Spec PyProof.Rows L2
def dBadUnitsInit : He.DefD := ⟨("BadUnits", some "__init__"), "__init__", "BadUnits.__init__", defArgs sBadUnitsInit, defBody sBadUnitsInit, defScope sBadUnitsInit, [], []⟩
def dBadRowInit : He.DefD := ⟨("BadRow", some "__init__"), "__init__", "BadRow.__init__", defArgs sBadRowInit, defBody sBadRowInit, defScope sBadRowInit, [], []⟩
def dBadPlanInit : He.DefD := ⟨("BadPlan", some "__init__"), "__init__", "BadPlan.__init__", defArgs sBadPlanInit, defBody sBadPlanInit, defScope sBadPlanInit, [], []⟩
def dTooGreatInit : He.DefD := ⟨("TooGreat", some "__init__"), "__init__", "TooGreat.__init__", defArgs sTooGreatInit, defBody sTooGreatInit, defScope sTooGreatInit, [], []⟩
def dIsFrom : He.DefD := ⟨("is_from", none), "is_from", "is_from", defArgs sIsFrom, defBody sIsFrom, defScope sIsFrom, [], []⟩
def dNeedUnits : He.DefD := ⟨("need_units", none), "need_units", "need_units", defArgs sNeedUnits, defBody sNeedUnits, defScope sNeedUnits, [], []⟩
def dIsRow : He.DefD := ⟨("is_row", none), "is_row", "is_row", defArgs sIsRow, defBody sIsRow, defScope sIsRow, [], []⟩
def dNeedRow : He.DefD := ⟨("need_row", none), "need_row", "need_row", defArgs sNeedRow, defBody sNeedRow, defScope sNeedRow, [], []⟩
def dAdded : He.DefD := ⟨("added", none), "added", "added", defArgs sAdded, defBody sAdded, defScope sAdded, [], []⟩
def dLess : He.DefD := ⟨("less", none), "less", "less", defArgs sLess, defBody sLess, defScope sLess, [], []⟩
def dStairFrom : He.DefD := ⟨("stair_from", none), "stair_from", "stair_from", defArgs sStairFrom, defBody sStairFrom, defScope sStairFrom, [], []⟩
def dRowFrom : He.DefD := ⟨("row_from", none), "row_from", "row_from", defArgs sRowFrom, defBody sRowFrom, defScope sRowFrom, [], []⟩
def dUpStair : He.DefD := ⟨("up_stair", none), "up_stair", "up_stair", defArgs sUpStair, defBody sUpStair, defScope sUpStair, [], []⟩
def dDownStair : He.DefD := ⟨("down_stair", none), "down_stair", "down_stair", defArgs sDownStair, defBody sDownStair, defScope sDownStair, [], []⟩
def dLiesWithin : He.DefD := ⟨("lies_within", none), "lies_within", "lies_within", defArgs sLiesWithin, defBody sLiesWithin, defScope sLiesWithin, [], []⟩
def dIsEnough : He.DefD := ⟨("is_enough", none), "is_enough", "is_enough", defArgs sIsEnough, defBody sIsEnough, defScope sIsEnough, [], []⟩
def dUnlikeOf : He.DefD := ⟨("unlike_of", none), "unlike_of", "unlike_of", defArgs sUnlikeOf, defBody sUnlikeOf, defScope sUnlikeOf, [], []⟩
def dKept : He.DefD := ⟨("kept", none), "kept", "kept", defArgs sKept, defBody sKept, defScope sKept, [], []⟩
def dGreatestOf : He.DefD := ⟨("greatest_of", none), "greatest_of", "greatest_of", defArgs sGreatestOf, defBody sGreatestOf, defScope sGreatestOf, [], []⟩
def dGreaterOf : He.DefD := ⟨("greater_of", none), "greater_of", "greater_of", defArgs sGreaterOf, defBody sGreaterOf, defScope sGreaterOf, [], []⟩
def dPairsOf : He.DefD := ⟨("pairs_of", none), "pairs_of", "pairs_of", defArgs sPairsOf, defBody sPairsOf, defScope sPairsOf, [], []⟩
def dLeastStairs : He.DefD := ⟨("least_stairs", none), "least_stairs", "least_stairs", defArgs sLeastStairs, defBody sLeastStairs, defScope sLeastStairs, [], []⟩
def dRowsOf : He.DefD := ⟨("rows_of", none), "rows_of", "rows_of", defArgs sRowsOf, defBody sRowsOf, defScope sRowsOf, [], []⟩
def dLivesFrom : He.DefD := ⟨("lives_from", none), "lives_from", "lives_from", defArgs sLivesFrom, defBody sLivesFrom, defScope sLivesFrom, [], []⟩
def dHasForm : He.DefD := ⟨("has_form", none), "has_form", "has_form", defArgs sHasForm, defBody sHasForm, defScope sHasForm, [], []⟩
def dIsStep : He.DefD := ⟨("is_step", none), "is_step", "is_step", defArgs sIsStep, defBody sIsStep, defScope sIsStep, [], []⟩
def dPlacesIn : He.DefD := ⟨("places_in", none), "places_in", "places_in", defArgs sPlacesIn, defBody sPlacesIn, defScope sPlacesIn, [], []⟩
def dNeedForms : He.DefD := ⟨("need_forms", none), "need_forms", "need_forms", defArgs sNeedForms, defBody sNeedForms, defScope sNeedForms, [], []⟩
def dNeedPlan : He.DefD := ⟨("need_plan", none), "need_plan", "need_plan", defArgs sNeedPlan, defBody sNeedPlan, defScope sNeedPlan, [], []⟩
def dLives : He.DefD := ⟨("lives", none), "lives", "lives", defArgs sLives, defBody sLives, defScope sLives, [], []⟩
def dPlanStocks : He.DefD := ⟨("plan_stocks", none), "plan_stocks", "plan_stocks", defArgs sPlanStocks, defBody sPlanStocks, defScope sPlanStocks, [], []⟩
def dPlanLacks : He.DefD := ⟨("plan_lacks", none), "plan_lacks", "plan_lacks", defArgs sPlanLacks, defBody sPlanLacks, defScope sPlanLacks, [], []⟩
def dStillAsked : He.DefD := ⟨("still_asked", none), "still_asked", "still_asked", defArgs sStillAsked, defBody sStillAsked, defScope sStillAsked, [], []⟩
def dWMixed : He.DefD := ⟨("_law_mixed", none), "_law_mixed", "_law_mixed", defArgs sWMixed, defBody sWMixed, defScope sWMixed, [], []⟩
def dWBegin : He.DefD := ⟨("_law_begin", none), "_law_begin", "_law_begin", defArgs sWBegin, defBody sWBegin, defScope sWBegin, [], []⟩
def dWDraw : He.DefD := ⟨("_law_draw", none), "_law_draw", "_law_draw", defArgs sWDraw, defBody sWDraw, defScope sWDraw, [], []⟩
def dWOf : He.DefD := ⟨("_law_of", none), "_law_of", "_law_of", defArgs sWOf, defBody sWOf, defScope sWOf, [], []⟩
def dWSizes : He.DefD := ⟨("_law_sizes", none), "_law_sizes", "_law_sizes", defArgs sWSizes, defBody sWSizes, defScope sWSizes, [], []⟩
def dWRow : He.DefD := ⟨("_law_row", none), "_law_row", "_law_row", defArgs sWRow, defBody sWRow, defScope sWRow, [], []⟩
def dWBeside : He.DefD := ⟨("_law_beside", none), "_law_beside", "_law_beside", defArgs sWBeside, defBody sWBeside, defScope sWBeside, [], []⟩
def dWWithout : He.DefD := ⟨("_law_without", none), "_law_without", "_law_without", defArgs sWWithout, defBody sWWithout, defScope sWWithout, [], []⟩
def dWCuts : He.DefD := ⟨("_law_cuts", none), "_law_cuts", "_law_cuts", defArgs sWCuts, defBody sWCuts, defScope sWCuts, [], []⟩
def dWFits : He.DefD := ⟨("_law_fits", none), "_law_fits", "_law_fits", defArgs sWFits, defBody sWFits, defScope sWFits, [], []⟩
def dWLefts : He.DefD := ⟨("_law_lefts", none), "_law_lefts", "_law_lefts", defArgs sWLefts, defBody sWLefts, defScope sWLefts, [], []⟩
def dWLike : He.DefD := ⟨("_law_like", none), "_law_like", "_law_like", defArgs sWLike, defBody sWLike, defScope sWLike, [], []⟩
def dWSmallUnits : He.DefD := ⟨("_law_small_units", none), "_law_small_units", "_law_small_units", defArgs sWSmallUnits, defBody sWSmallUnits, defScope sWSmallUnits, [], []⟩
def dWSmallPlan : He.DefD := ⟨("_law_small_plan", none), "_law_small_plan", "_law_small_plan", defArgs sWSmallPlan, defBody sWSmallPlan, defScope sWSmallPlan, [], []⟩
def dWLive : He.DefD := ⟨("_law_live", none), "_law_live", "_law_live", defArgs sWLive, defBody sWLive, defScope sWLive, [], []⟩
def dWCaught : He.DefD := ⟨("_law_caught", none), "_law_caught", "_law_caught", defArgs sWCaught, defBody sWCaught, defScope sWCaught, [], []⟩
def dWChosen : He.DefD := ⟨("_law_chosen", none), "_law_chosen", "_law_chosen", defArgs sWChosen, defBody sWChosen, defScope sWChosen, [], []⟩
def dWRefusedRight : He.DefD := ⟨("_law_refused_right", none), "_law_refused_right", "_law_refused_right", defArgs sWRefusedRight, defBody sWRefusedRight, defScope sWRefusedRight, [], []⟩
def dWListRight : He.DefD := ⟨("_law_list_right", none), "_law_list_right", "_law_list_right", defArgs sWListRight, defBody sWListRight, defScope sWListRight, [], []⟩
def dWStockRight : He.DefD := ⟨("_law_stock_right", none), "_law_stock_right", "_law_stock_right", defArgs sWStockRight, defBody sWStockRight, defScope sWStockRight, [], []⟩
def dLaw : He.DefD := ⟨("law", none), "law", "law", defArgs sLaw, defBody sLaw, defScope sLaw, [], []⟩
def fnL0 : List He.DefD := [dBadUnitsInit, dBadRowInit, dBadPlanInit, dTooGreatInit, dIsFrom, dNeedUnits, dIsRow, dNeedRow, dAdded, dLess, dStairFrom, dRowFrom, dUpStair, dDownStair, dLiesWithin, dIsEnough, dUnlikeOf, dKept, dGreatestOf, dGreaterOf]
def fnL1 : List He.DefD := [dPairsOf, dLeastStairs, dRowsOf, dLivesFrom, dHasForm, dIsStep, dPlacesIn, dNeedForms, dNeedPlan, dLives, dPlanStocks, dPlanLacks, dStillAsked, dWMixed, dWBegin, dWDraw, dWOf, dWSizes, dWRow, dWBeside]
def fnL2 : List He.DefD := [dWWithout, dWCuts, dWFits, dWLefts, dWLike, dWSmallUnits, dWSmallPlan, dWLive, dWCaught, dWChosen, dWRefusedRight, dWListRight, dWStockRight, dLaw]
def fnL : List He.DefD := fnL0 ++ fnL1 ++ fnL2
def faL0 : List He.Fa := [.glo "YardError", .glo "BadUnits", .glo "BadRow", .glo "BadPlan", .glo "TooGreat", .glo "is_from", .glo "need_units", .glo "is_row", .glo "need_row", .glo "added", .glo "less", .glo "stair_from", .glo "row_from", .glo "up_stair", .glo "down_stair", .glo "lies_within", .glo "is_enough", .glo "unlike_of", .glo "kept", .glo "greatest_of"]
def faL1 : List He.Fa := [.glo "greater_of", .glo "pairs_of", .glo "least_stairs", .glo "rows_of", .glo "lives_from", .glo "has_form", .glo "is_step", .glo "places_in", .glo "need_forms", .glo "need_plan", .glo "lives", .glo "plan_stocks", .glo "plan_lacks", .glo "still_asked", .glo "_law_mixed", .glo "_law_begin", .glo "_law_draw", .glo "_law_of", .glo "_law_sizes", .glo "_law_row"]
def faL2 : List He.Fa := [.glo "_law_beside", .glo "_law_without", .glo "_law_cuts", .glo "_law_fits", .glo "_law_lefts", .glo "_law_like", .glo "_law_small_units", .glo "_law_small_plan", .glo "_law_live", .glo "_law_caught", .glo "_law_chosen", .glo "_law_refused_right", .glo "_law_list_right", .glo "_law_stock_right", .glo "law", .int "MOST_UNITS" (3), .int "MOST_RATIO" (10), .int "MOST_PIECES" (10 ^ 60), .int "MOST_LEAST" (40), .int "MOST_DEEP" (16)]
def faL3 : List He.Fa := [.int "MOST_PARTS" (60), .free "ValueError", .free "len", .free "isinstance", .free "int", .free "bool", .free "tuple", .free "str", .free "zip", .free "enumerate", .free "reversed", .free "range", .free "sorted", .free "min", .free "max", .free "repr", .free "list", .noat "BadUnits" "value", .noat "BadRow" "value", .noat "BadPlan" "path"]
def faL4 : List He.Fa := [.noat "TooGreat" "most", .exm "BadUnits" "BadUnits" true, .exm "BadPlan" "BadUnits" false, .exm "BadPlan" "BadPlan" true, .exm "BadRow" "BadUnits" false, .exm "BadRow" "BadPlan" false, .exm "BadRow" "BadRow" true, .exm "TooGreat" "BadUnits" false, .exm "TooGreat" "BadPlan" false, .exm "TooGreat" "BadRow" false, .exm "TooGreat" "TooGreat" true]
def faL : List He.Fa := faL0 ++ faL1 ++ faL2 ++ faL3 ++ faL4

def looseL0 : List PySem.Str := ["YardError", "BadUnits", "BadRow", "BadPlan", "TooGreat", "MOST_UNITS", "MOST_RATIO", "is_from", "need_units", "MOST_PIECES", "is_row", "need_row", "added", "less", "stair_from", "row_from", "up_stair", "down_stair", "MOST_LEAST", "lies_within"]
def looseL1 : List PySem.Str := ["is_enough", "unlike_of", "kept", "greatest_of", "greater_of", "pairs_of", "least_stairs", "rows_of", "lives_from", "MOST_DEEP", "MOST_PARTS", "has_form", "is_step", "places_in", "need_forms", "need_plan", "lives", "plan_stocks", "plan_lacks", "still_asked"]
def looseL2 : List PySem.Str := ["_law_mixed", "_law_begin", "_law_draw", "_law_of", "_law_sizes", "_law_row", "_law_beside", "_law_without", "_law_cuts", "_law_fits", "_law_lefts", "_law_like", "_law_small_units", "_law_small_plan", "_law_live", "_law_caught", "_law_chosen", "_law_refused_right", "_law_list_right", "_law_stock_right"]
def looseL : List PySem.Str := looseL0 ++ looseL1 ++ looseL2
def exL (K : PySem.W.Frag) : Bool := excAll K (He.ga K "BadUnits") (He.ma K (He.ga K "BadUnits") "__init__") && excAll K (He.ga K "BadRow") (He.ma K (He.ga K "BadRow") "__init__") && excAll K (He.ga K "BadPlan") (He.ma K (He.ga K "BadPlan") "__init__") && excAll K (He.ga K "TooGreat") (He.ma K (He.ga K "TooGreat") "__init__") && yardB K (He.ga K "YardError") && ((He.cT K ("need_plan", none)).2 != (He.cT K ("_law_refused_right", none)).2)
def tfL : List He.Defn := [("need_plan", none), ("_law_refused_right", none)]
abbrev R40 : PySem.W.OpenRow := PySem.W.OpenLaw.row PySem.Challenge.rw_stairyard_k40_whole_further_asks_and_lac
abbrev hk40 : PySem.W.Hook := hookY 5 faL fnL tfL exL
def ob40 (s : PySem.W.SharedT) : He.AlX := obsY 5 faL fnL tfL exL (HandSHeadRun.getT s)
theorem ob40_eq (s : PySem.W.SharedT) : ob40 s = hk40.obs s.abs := obsY_eq (HandSHeadRun.getT_eq s)
theorem run40 (w : World) : HandSHeadRun.RunEq R40 (PySem.W.view R40.prog [67]) hk40 ob40 4000 looseL w := by
  intro os
  kernel_rfl
end K40
end
section
set_option Elab.async false
set_option linter.all false
set_option maxRecDepth 100000
set_option autoImplicit false
/-! What the top has left, by name (printed by wip/gen_world.py). -/
namespace K40
open PySem PySem.Spec PyProof.Rows L2
structure Df (K : PySem.W.Frag) (mg : Str → Option Value) (x : Str) (st : Stmt) (ps : List Str) where
  f : Addr
  fd : FuncData
  g : mg x = some (.ref f)
  F : Fun K x x st f fd
  b : Binds K fd ps []
structure Wd (K : PySem.W.Frag) (mg : Str → Option Value) where
  isFrom : Df K mg "is_from" sIsFrom ["value", "low", "high"]
  needUnits : Df K mg "need_units" sNeedUnits ["value"]
  isRow : Df K mg "is_row" sIsRow ["units", "value"]
  needRow : Df K mg "need_row" sNeedRow ["units", "value"]
  added : Df K mg "added" sAdded ["one", "other"]
  less : Df K mg "less" sLess ["one", "other"]
  stairFrom : Df K mg "stair_from" sStairFrom ["units", "row"]
  rowFrom : Df K mg "row_from" sRowFrom ["units", "stair"]
  upStair : Df K mg "up_stair" sUpStair ["units", "numbers"]
  downStair : Df K mg "down_stair" sDownStair ["units", "numbers"]
  liesWithin : Df K mg "lies_within" sLiesWithin ["one", "other"]
  isEnough : Df K mg "is_enough" sIsEnough ["stairs", "stair"]
  unlikeOf : Df K mg "unlike_of" sUnlikeOf ["stairs"]
  kept : Df K mg "kept" sKept ["stairs"]
  greatestOf : Df K mg "greatest_of" sGreatestOf ["stairs"]
  greaterOf : Df K mg "greater_of" sGreaterOf ["one", "other"]
  pairsOf : Df K mg "pairs_of" sPairsOf ["first", "second"]
  leastStairs : Df K mg "least_stairs" sLeastStairs ["units", "plan"]
  rowsOf : Df K mg "rows_of" sRowsOf ["units", "stairs"]
  livesFrom : Df K mg "lives_from" sLivesFrom ["units", "plan", "stair"]
  hasForm : Df K mg "has_form" sHasForm ["value", "size"]
  isStep : Df K mg "is_step" sIsStep ["units", "value"]
  placesIn : Df K mg "places_in" sPlacesIn ["plan"]
  needForms : Df K mg "need_forms" sNeedForms ["value", "fits"]
  needPlan : Df K mg "need_plan" sNeedPlan ["units", "value"]
  lives : Df K mg "lives" sLives ["units", "plan", "stock"]
  planStocks : Df K mg "plan_stocks" sPlanStocks ["units", "plan"]
  planLacks : Df K mg "plan_lacks" sPlanLacks ["units", "plan", "stock"]
  stillAsked : Df K mg "still_asked" sStillAsked ["units", "plan", "stock"]
  wMixed : Df K mg "_law_mixed" sWMixed ["_law_cell", "_law_k"]
  wBegin : Df K mg "_law_begin" sWBegin ["_law_script"]
  wDraw : Df K mg "_law_draw" sWDraw ["_law_state", "_law_limit"]
  wOf : Df K mg "_law_of" sWOf ["_law_state", "_law_some"]
  wSizes : Df K mg "_law_sizes" sWSizes ["_law_units_so"]
  wRow : Df K mg "_law_row" sWRow ["_law_state", "_law_units_so", "_law_most"]
  wBeside : Df K mg "_law_beside" sWBeside ["_law_one", "_law_other"]
  wWithout : Df K mg "_law_without" sWWithout ["_law_row_here", "_law_order"]
  wCuts : Df K mg "_law_cuts" sWCuts ["_law_units_so", "_law_row_here"]
  wFits : Df K mg "_law_fits" sWFits ["_law_units_so", "_law_order", "_law_stock"]
  wLefts : Df K mg "_law_lefts" sWLefts ["_law_units_so", "_law_stock", "_law_order"]
  wLike : Df K mg "_law_like" sWLike ["_law_got", "_law_due"]
  wSmallUnits : Df K mg "_law_small_units" sWSmallUnits ["_law_state"]
  wSmallPlan : Df K mg "_law_small_plan" sWSmallPlan ["_law_state", "_law_units_so", "_law_deep"]
  wLive : Df K mg "_law_live" sWLive ["_law_units_so", "_law_plan_so", "_law_path_so", "_law_stock", "_law_seen"]
  wCaught : Df K mg "_law_caught" sWCaught ["_law_call"]
  wChosen : Df K mg "_law_chosen" sWChosen ["_law_rows"]
  wRefusedRight : Df K mg "_law_refused_right" sWRefusedRight []
  wListRight : Df K mg "_law_list_right" sWListRight ["_law_units_so", "_law_told"]
  wStockRight : Df K mg "_law_stock_right" sWStockRight ["_law_state", "_law_units_so", "_law_plan_so", "_law_stock", "_law_seen"]
  law : Df K mg "law" sLaw ["_law_script"]
  nLen : mg "len" = none
  nIsinstance : mg "isinstance" = none
  nInt : mg "int" = none
  nBool : mg "bool" = none
  nTuple : mg "tuple" = none
  nStr : mg "str" = none
  nZip : mg "zip" = none
  nEnumerate : mg "enumerate" = none
  nReversed : mg "reversed" = none
  nRange : mg "range" = none
  nSorted : mg "sorted" = none
  nMin : mg "min" = none
  nMax : mg "max" = none
  nRepr : mg "repr" = none
  nList : mg "list" = none
  nValueError : mg "ValueError" = none
  tMostUnits : Tok
  cMostUnits : mg "MOST_UNITS" = some (.int 3 tMostUnits)
  tMostRatio : Tok
  cMostRatio : mg "MOST_RATIO" = some (.int 10 tMostRatio)
  tMostPieces : Tok
  cMostPieces : mg "MOST_PIECES" = some (.int (10 ^ 60) tMostPieces)
  tMostLeast : Tok
  cMostLeast : mg "MOST_LEAST" = some (.int 40 tMostLeast)
  tMostDeep : Tok
  cMostDeep : mg "MOST_DEEP" = some (.int 16 tMostDeep)
  tMostParts : Tok
  cMostParts : mg "MOST_PARTS" = some (.int 60 tMostParts)
end K40
end
section
set_option Elab.async false
set_option linter.all false
set_option maxRecDepth 100000
set_option maxHeartbeats 4000000
/-! Rules that the layer has not: min of a tuple, slices from behind, enumerate of a tuple, a tuple once. -/
namespace K40
open PySem PySem.Spec PyProof.Rows L2

/-! ### min of a tuple of ints -/
theorem foldl_min_facts : ∀ (r : List Int) (a : Int), (r.foldl min a = a ∨ r.foldl min a ∈ r) ∧ r.foldl min a ≤ a ∧ ∀ x ∈ r, r.foldl min a ≤ x
  | [], a => ⟨.inl rfl, Int.le_refl _, fun _ h => absurd h (by simp)⟩
  | x :: r, a => by
    obtain ⟨h1, h2, h3⟩ := foldl_min_facts r (min a x)
    rw [List.foldl_cons]
    refine ⟨?_, by omega, fun y hy => ?_⟩
    · rcases h1 with h1 | h1
      · by_cases h : a ≤ x
        · exact .inl (by omega)
        · exact .inr (List.mem_cons.mpr (.inl (by omega)))
      · exact .inr (List.mem_cons_of_mem _ h1)
    · rcases List.mem_cons.mp hy with e | hy
      · omega
      · exact h3 y hy
def rMinT (K : PySem.W.Frag) : List V → Hp → VK → Prop := fun vs H Q => ∃ (a : Addr) (n : Int) (ns : List Int), vs = [.ref a] ∧ SqT K H a ((n :: ns).map V.int) ∧ Q (.int (ns.foldl min n)) H
theorem cr_minT {X : Cx} (hc : X.calm = true) (hu : X.A.units + 1 < cLine) : CallR X (.builtin "min") (rMinT X.K) := by
  intro pins s σ H vs us Q I r h
  obtain ⟨a, n, ns, rfl, hs, q⟩ := h
  rw [Vals.ref1 r]
  obtain ⟨its, rv, ht, hz⟩ := I.tuple hs
  obtain ⟨as, hr⟩ := Dp.readsAll I ((n :: ns).map PyData.int) _ its (dpAll_ints (K := X.K) (H := H) (n :: ns)) rv
  have alk : PySem.W.AlikeAll (PyData.int n :: ns.map PyData.int) := by
    refine ⟨fun x hx y hy => ?_, fun x hx => ?_⟩
    · have ex : ∃ i, x = .int i := by
        rcases List.mem_cons.mp hx with e | hx
        · exact ⟨_, e⟩
        · obtain ⟨i, _, e⟩ := List.mem_map.mp hx
          exact ⟨i, e.symm⟩
      have ey : ∃ i, y = .int i := by
        rcases List.mem_cons.mp hy with e | hy
        · exact ⟨_, e⟩
        · obtain ⟨i, _, e⟩ := List.mem_map.mp hy
          exact ⟨i, e.symm⟩
      obtain ⟨i, rfl⟩ := ex
      obtain ⟨j, rfl⟩ := ey
      simp [PySem.W.alike]
    · rcases List.mem_cons.mp hx with e | hx
      · rw [e]; exact fun z => nomatch z
      · obtain ⟨i, _, e⟩ := List.mem_map.mp hx
        rw [← e]; exact fun z => nomatch z
  have hd : PyData.depthAll (PyData.int n :: ns.map PyData.int) = 0 := PySem.W.depth_ints (n :: ns)
  obtain ⟨o, e1, e2, k, e4⟩ := ht
  refine PySem.W.min_tuple_data (I.ok.hd hc) (show s.heap.IsTuple a its.toArray from ⟨o, e1, e2, k, e4⟩) (by simpa using hr) alk (by rw [hd]; exact hu) fun i v h' tk bs hv hrd hk => ?_
  rw [PySem.W.minD_ints] at hrd
  cases hrd with
  | int i t => exact ⟨.int _, H, I.kept hk, ⟨_, rfl⟩, q⟩

/-! ### slices from behind -/
section
variable {prog : Program} {w : World} {A : Around} {E : Value → Shared → Prop} {s : Shared}
theorem applied_rev {sl : Addr} {vs : Value} {n : Nat} {Q : Int × Int × Nat → Shared → Prop} (hs : s.heap.IsSliceOf sl .none .none vs) (ps : IsPart vs (some (-1))) (h : Q ((n : Int) - 1, -1, n) s) :
    wpAny (model prog w) A (Builtin.Slice.sliceApplied (.ref sl) (pure (n : Int))) Q E s := by
  obtain ⟨os, hos, hcs, hds⟩ := id hs
  unfold Builtin.Slice.sliceApplied Builtin.Slice.sliceFields
  refine wpAny_bind (wpAny_bind (wpAny_field hos hds (x := .none) rfl (wpAny_bind (wpAny_field hos hds (x := .none) rfl (wpAny_bind (wpAny_field hos hds (x := vs) rfl (wpAny_pure ?_)))))))
  refine wpAny_bind (HT.slicePart_ ps ?_)
  show wpAny _ _ (if ((-1 : Int) == 0) = true then _ else _) _ _ s
  rw [if_neg (by decide)]
  refine wpAny_bind (HT.slicePart_ .none (wpAny_bind (HT.slicePart_ .none (wpAny_bind (wpAny_pure ?_)))))
  have e : Builtin.Slice.slicePlaces ((n : Int) - 1) (-1) (-1) = n := by
    unfold Builtin.Slice.slicePlaces
    have h1 : ¬ ((-1 : Int) > 0) := by decide
    simp only [h1, if_false]
    by_cases hn : (n : Int) - 1 > -1
    · rw [if_pos hn, show (- -1 : Int) = 1 by decide, Int.ediv_one]
      omega
    · rw [if_neg hn]
      omega
  show wpAny _ _ (pure ((n : Int) - 1, (-1 : Int), Builtin.Slice.slicePlaces ((n : Int) - 1) (-1) (-1))) _ _ s
  rw [e]
  exact wpAny_pure h
theorem filterMap_same {α β : Type} {f g : α → Option β} : ∀ {l : List α}, (∀ x ∈ l, f x = g x) → l.filterMap f = l.filterMap g
  | [], _ => rfl
  | x :: l, h => by
    rw [List.filterMap_cons, List.filterMap_cons, h x (by simp), filterMap_same fun y hy => h y (by simp [hy])]
theorem pick_rev (xs : Array Value) : ((List.range xs.size).filterMap fun (m : Nat) => xs[(((xs.size : Nat) : Int) - 1 + (m : Int) * (-1)).toNat]?).toArray = xs.toList.reverse.toArray := by
  have h := PySem.W.krv_pick xs
  rw [← h]
  unfold slicePick
  rw [PySem.W.krv_bounds]
  show _ = ((sliceRange ((xs.size : Int) - 1) (-1) (-1)).filterMap (xs[·]?)).toArray
  rw [PySem.W.krv_sliceRange, List.filterMap_map]
  congr 1
  refine filterMap_same fun k hk => ?_
  have := List.mem_range.mp hk
  show xs[(((xs.size : Nat) : Int) - 1 + (k : Int) * (-1)).toNat]? = xs[xs.size - 1 - k]?
  congr 1
  omega
theorem item_tuple_rev {t sl : Addr} {items : Array Value} {vs : Value} {Q : Value → Shared → Prop} (ht : IsTup s.heap t items) (hs : s.heap.IsSliceOf sl .none .none vs) (ps : IsPart vs (some (-1)))
    (h : Q (.ref s.heap.objs.size) { s with heap := s.heap.push { cls := .type "tuple", data := .seq items.toList.reverse.toArray } }) (hz : items.size ≤ sizeLine) : wpAny (model prog w) A (getItem (.ref t) (.ref sl)) Q E s := by
  obtain ⟨os, hos, hcs, hds⟩ := id hs
  have hTs : s.TypeIs (.ref sl) "slice" := ⟨os, hos, hcs⟩
  unfold getItem
  try with_reducible refine wpAny_holding ?_
  first | refine wpAny_bind (wpAny_pure ?_) | skip
  refine wpAny_bind (wpAny_sequenceKey ht.typeIs (by decide) ?_)
  refine wpAny_bind (wpAny_callSpecial?_slot (name := Str.ofString "__getitem__") ht.typeIs PyProof.Rows.slot_tuple_getitem
    (wpAny_call_entry PyProof.Rows.slot_tuple_getitem ht.typeIs entry_tuple_getitem ?_ (args_tuple_getitem _ _)))
  show wpAny _ _ (Builtin.Tuple.tupleItemsOf (.ref t) >>= _) _ _ s
  refine wpAny_bind (tupleItemsOf_ ht (wpAny_bind (wpAny_typeOf hTs ?_)))
  rw [if_pos (by decide)]
  refine wpAny_bind (applied_rev hs ps ?_)
  have hno : ¬ ((((items.size : Nat) : Int) - 1 == 0 && (-1 : Int) == 1 && items.size == items.size) = true) := by
    intro q
    rw [Bool.and_eq_true, Bool.and_eq_true] at q
    exact absurd (eq_of_beq q.1.2) (by decide)
  show wpAny _ _ (if (((items.size : Nat) : Int) - 1 == 0 && (-1 : Int) == 1 && items.size == items.size) = true then _ else _) _ _ s
  have hsz : sizeOk (.seq items.toList.reverse.toArray) := by
    show items.toList.reverse.toArray.size ≤ sizeLine
    rw [List.size_toArray, List.length_reverse, Array.length_toList]
    exact hz
  rw [if_neg hno, pick_rev]
  first
    | exact wpAny_bind (m := Builtin.Tuple.tupleExact _) (wpAny_newObj_type (wpAny_pure ⟨_, rfl, wpAny_pure h⟩) hsz)
    | exact wpAny_bind (m := Builtin.Tuple.tupleExact _) (wpAny_newObj_type (wpAny_bind (wpAny_pure (wpAny_pure ⟨_, rfl, wpAny_pure h⟩))) hsz)
    | exact wpAny_bind (wpAny_bind (m := Builtin.Tuple.tupleExact _) (wpAny_newObj_type (wpAny_pure (wpAny_pure ⟨_, rfl, wpAny_pure h⟩)) hsz))
end
section
variable {X : Cx}
/-- t[::-1] -/
def tRevT (K : PySem.W.Frag) (te : TE) : TE := fun σ H Q => te σ H fun x H1 => ∃ a xs, x = .ref a ∧ SqT K H1 a xs ∧ ∀ p, H1 p = none → Q (.ref p) (upd H1 p (.tup xs.reverse))
theorem pe_revT {e : Expr} {te : TE} {k : Nat} {p1 p2 p3 pos : Pos} (he : PE X e te) : PE X (.Subscript e (.Slice none none (some (.UnaryOp .USub (.Constant (.int 1) k p1) p2)) p3) pos) (tRevT X.K te) := by
  refine ⟨fun pins s σ H Q I h => Subscript_ (thn (he.run pins s σ H _ I h) fun v s1 ⟨x, H1, I1, r1, a, xs, ex, hx, q⟩ => ?_)⟩
  subst ex
  cases r1
  have hst : PO X (some (.UnaryOp .USub (.Constant (.int 1) k p1) p2)) (tPart (tUn (rU fun i => .int (-i)) (tC (.int 1)))) := po_some (pe_un un_neg pe_int)
  refine wpAny_Slice (thn (po_none.run pins s1 σ H1 (fun o H2 => o = none ∧ H2 = H1) I1 ⟨rfl, rfl⟩) fun vl s2 ⟨l, H2, I2, pl, el, e2⟩ => ?_)
  subst el e2
  refine thn (po_none.run pins s2 σ H2 (fun o H3 => o = none ∧ H3 = H2) I2 ⟨rfl, rfl⟩) fun vu s3 ⟨u, H3, I3, pu, eu, e3⟩ => ?_
  subst eu e3
  refine thn (hst.run pins s3 σ H3 (fun o H4 => o = some (-1) ∧ H4 = H3) I3 ⟨1, rfl, -1, rfl, rfl, rfl⟩) fun vs s4 ⟨o, H4, I4, ps, eo, e4⟩ => ?_
  subst eo e4
  cases pl
  cases pu
  have I5 : Inv X pins σ H4 { s4 with heap := s4.heap.push { cls := .type "slice", data := .fields #[.none, .none, vs] } } := I4.kept (t' := s4.toks) fun b ob q => Heap.get?_push_of_some _ q
  obtain ⟨its, r, ht, hz⟩ := I5.tuple hx
  have hlen := r.length
  show wpAny (model X.prog X.w) X.A (subscriptTail e (.Slice none none (some (.UnaryOp .USub (.Constant (.int 1) k p1) p2)) p3) (.ref a) (.ref s4.heap.objs.size)) (EP X pins σ Q) X.xe { s4 with heap := s4.heap.push { cls := .type "slice", data := .fields #[.none, .none, vs] } }
  refine tail_any (ops := [.ref a, .ref s4.heap.objs.size]) ht.typeIs PyProof.Rows.slot_tuple_getitem.lookup ?_ (by with_unfolding_all rfl)
  refine item_tuple_rev ht (Heap.IsSliceOf.new _ .none .none vs) ps ?_ (by rw [List.size_toArray]; omega)
  refine ⟨.ref _, _, I5.laid (t' := s4.toks) (o := .tup xs.reverse) (fun b ob q => Heap.get?_push_of_some _ q) (Nat.le_refl _) ?_, rfl, q _ (I5.hok.fresh (Nat.le_refl _))⟩
  exact ⟨by rw [List.length_reverse]; exact hz, _, r.reverse, IsTup.new _ _⟩
/-- xs[-2::-1] of a list -/
theorem pick_rev2 (items : Array Value) : slicePick items (some (-2)) none (some (-1)) = items.toList.dropLast.reverse.toArray := by
  unfold slicePick
  have hb : sliceBounds (some (-2)) none (some (-1)) items.size = (if (-2 : Int) + items.size < -1 then -1 else (-2 : Int) + items.size, -1, -1) := by
    unfold sliceBounds
    simp only []
    first
      | rfl
      | (have h1 : ¬ ((-1 : Int) > 0) := by decide
         have h2 : ((-2 : Int) < 0) := by decide
         simp only [Option.getD_some, h1, h2, if_false, if_true]
         refine Prod.ext ?_ rfl
         show _ = _
         split <;> omega)
  rw [hb]
  have e : (if (-2 : Int) + items.size < -1 then -1 else (-2 : Int) + items.size) = ((items.size - 1 : Nat) : Int) - 1 := by
    split <;> omega
  rw [e]
  show ((sliceRange (((items.size - 1 : Nat) : Int) - 1) (-1) (-1)).filterMap (items[·]?)).toArray = _
  rw [PySem.W.krv_sliceRange, PySem.W.krv_range, List.filterMap_reverse]
  have e2 : (List.range (items.size - 1)).filterMap (items[·]?) = items.toList.dropLast := by
    rw [List.dropLast_eq_take, Array.length_toList]
    have h := pick_run items 0 (items.size - 1)
    have e0 : (List.range (items.size - 1)).map (0 + ·) = List.range (items.size - 1) := by
      rw [show ((0 + ·) : Nat → Nat) = id from funext fun k => Nat.zero_add k, List.map_id]
    rw [e0, List.drop_zero] at h
    exact h
  rw [e2]
def tRevL2 (K : PySem.W.Frag) (te : TE) : TE := fun σ H Q => te σ H fun x H1 => ∃ a xs, x = .ref a ∧ SqL K H1 a xs ∧ ∀ p, H1 p = none → Q (.ref p) (upd H1 p (.lst xs.dropLast.reverse))
theorem vals_dropLast : ∀ {xs : List V} {us : List Value}, Vals xs us → Vals xs.dropLast us.dropLast
  | _, _, .nil => .nil
  | _, _, .cons r .nil => .nil
  | _, _, .cons r (.cons q t) => .cons r (vals_dropLast (.cons q t))
theorem pe_revL2 {e : Expr} {te : TE} {k1 k2 : Nat} {p1 p2 p3 p4 p5 pos : Pos} (he : PE X e te) :
    PE X (.Subscript e (.Slice (some (.UnaryOp .USub (.Constant (.int 2) k1 p1) p2)) none (some (.UnaryOp .USub (.Constant (.int 1) k2 p3) p4)) p5) pos) (tRevL2 X.K te) := by
  refine ⟨fun pins s σ H Q I h => Subscript_ (thn (he.run pins s σ H _ I h) fun v s1 ⟨x, H1, I1, r1, a, xs, ex, hx, q⟩ => ?_)⟩
  subst ex
  cases r1
  have hlo : PO X (some (.UnaryOp .USub (.Constant (.int 2) k1 p1) p2)) (tPart (tUn (rU fun i => .int (-i)) (tC (.int 2)))) := po_some (pe_un un_neg pe_int)
  have hst : PO X (some (.UnaryOp .USub (.Constant (.int 1) k2 p3) p4)) (tPart (tUn (rU fun i => .int (-i)) (tC (.int 1)))) := po_some (pe_un un_neg pe_int)
  refine wpAny_Slice (thn (hlo.run pins s1 σ H1 (fun o H2 => o = some (-2) ∧ H2 = H1) I1 ⟨2, rfl, -2, rfl, rfl, rfl⟩) fun vl s2 ⟨l, H2, I2, pl, el, e2⟩ => ?_)
  subst el e2
  refine thn (po_none.run pins s2 σ H2 (fun o H3 => o = none ∧ H3 = H2) I2 ⟨rfl, rfl⟩) fun vu s3 ⟨u, H3, I3, pu, eu, e3⟩ => ?_
  subst eu e3
  refine thn (hst.run pins s3 σ H3 (fun o H4 => o = some (-1) ∧ H4 = H3) I3 ⟨1, rfl, -1, rfl, rfl, rfl⟩) fun vs s4 ⟨o, H4, I4, ps, eo, e4⟩ => ?_
  subst eo e4
  have I5 : Inv X pins σ H4 { s4 with heap := s4.heap.push { cls := .type "slice", data := .fields #[vl, vu, vs] } } := I4.kept (t' := s4.toks) fun b ob q => Heap.get?_push_of_some _ q
  obtain ⟨its, r, ht, hz⟩ := I5.list hx
  have hlen := r.length
  show wpAny (model X.prog X.w) X.A (subscriptTail e (.Slice (some (.UnaryOp .USub (.Constant (.int 2) k1 p1) p2)) none (some (.UnaryOp .USub (.Constant (.int 1) k2 p3) p4)) p5) (.ref a) (.ref s4.heap.objs.size)) (EP X pins σ Q) X.xe
    { s4 with heap := s4.heap.push { cls := .type "slice", data := .fields #[vl, vu, vs] } }
  refine tail_any (ops := [.ref a, .ref s4.heap.objs.size]) ht.isList.typeIs (PySem.slot_list_getitem.lookup) ?_ (by with_unfolding_all rfl)
  refine wpAny_getItem_list_slice ht.isList (Heap.IsSliceOf.new _ vl vu vs) pl pu ps (by decide) ?_ (by rw [List.size_toArray]; omega)
  rw [pick_rev2]
  refine ⟨.ref _, _, I5.laid (t' := s4.toks) (o := .lst xs.dropLast.reverse) (fun b ob q => Heap.get?_push_of_some _ q) (Nat.le_refl _) ?_, rfl, q _ (I5.hok.fresh (Nat.le_refl _))⟩
  refine ⟨by rw [List.length_reverse, List.length_dropLast]; omega, _, 0, ?_, Heap.get?_push_size _ rfl⟩
  exact (vals_dropLast r).reverse
end

end K40
end
section
set_option Elab.async false
set_option linter.all false
set_option maxRecDepth 100000
set_option maxHeartbeats 4000000
/-! sorted of rows: of a list, a tuple, a dict's keys; any length. -/
namespace K40
open PySem PySem.Spec PyProof.Rows L2
/-- rows in order -/
def leR (p q : Row) : Bool := decide (p ≤ q)
def sortR (rs : List Row) : List Row := rs.mergeSort leR
theorem dataLe_rowD : PySem.W.dataLe false rowD = leR := by
  funext p q
  show (!PySem.W.dataLt (rowD q) (rowD p)) = decide (p ≤ q)
  unfold rowD
  rw [PySem.W.dataLt_tuple]
  show (!PySem.W.rowLt (q.map .int) (p.map .int)) = decide (p ≤ q)
  rw [PySem.W.dataLt_ints]
  by_cases h : q < p
  · have h' : ¬ p ≤ q := fun r => List.not_lt.mpr r h
    simp [h, h']
  · have h' : p ≤ q := List.not_lt.mp h
    simp [h, h']
theorem depth_rowD (r : Row) : (rowD r).depth ≤ 1 := by
  unfold rowD
  rw [PyData.depth, PySem.W.depth_ints]
  exact Nat.le_refl _
theorem alike_rowD (p q : Row) : PySem.W.alike (rowD p) (rowD q) = true := by
  show PySem.W.alikeAll (p.map .int) (q.map .int) = true
  exact PySem.W.alike_ints p q
/-- what a value of the heap stands for -/
def VR (H : Hp) (v : Value) (r : Row) : Prop := ∃ a, v = .ref a ∧ H a = some (.tup (r.map V.int))
theorem eachVR {H : Hp} : ∀ {vs : List V} {rs : List Row} {us : List Value}, Rws H vs rs → Vals vs us → PySem.W.EachIs (VR H) us rs
  | _, _, _, .nil, .nil => .nil
  | _, _, _, .cons ⟨a, e, h⟩ t, .cons r q => by
    subst e
    cases r
    exact .cons ⟨a, rfl, h⟩ (eachVR t q)
theorem ofVR {H : Hp} : ∀ {us : List Value} {rs : List Row}, PySem.W.EachIs (VR H) us rs → ∃ vs, Vals vs us ∧ Rws H vs rs
  | _, _, .nil => ⟨[], .nil, .nil⟩
  | _, _, .cons ⟨a, e, h⟩ t => by
    obtain ⟨vs, h1, h2⟩ := ofVR t
    exact ⟨.ref a :: vs, .cons (by rw [e]; rfl) h1, .cons ⟨a, rfl, h⟩ h2⟩
section
variable {X : Cx} {pins : List (Addr × Obj)} {σ : L2.St} {H : Hp} {s : Shared}
theorem reads_of (I : Inv X pins σ H s) {v : Value} {r : Row} (h : VR H v r) : ∃ as, Reads s.heap v (rowD r) as := by
  obtain ⟨a, rfl, e⟩ := h
  exact Dp.reads I _ (.ref a) _ (TI.dp ⟨a, rfl, e⟩) rfl
theorem each_reads (I : Inv X pins σ H s) : ∀ {us : List Value} {rs : List Row}, PySem.W.EachIs (VR H) us rs → PySem.W.EachIs (fun v r => ∃ as, Reads s.heap v (rowD r) as) us rs
  | _, _, .nil => .nil
  | _, _, .cons h t => .cons (reads_of I h) (each_reads I t)
/-- row addresses are tuples' own: not the new list -/
theorem reads_not {h : Heap} {p : Addr} : ∀ {r : Row} {v : Value} {as : List Addr}, Reads h v (rowD r) as → p ∉ as := by
  intro r v as q
  have key : ∀ {ns : List Int} {us : List Value} {as : List Addr}, ReadsAll h us (ns.map PyData.int) as → as = [] := by
    intro ns
    induction ns with
    | nil => intro us as q; cases q; rfl
    | cons n ns ih =>
      intro us as q
      cases q with
      | cons q1 q2 =>
        cases q1
        rw [ih q2]
        rfl
  cases q with
  | tuple h1 h2 h3 h4 =>
    rw [key h4]
    simp
/-- the sort of a list just made of the rows' values -/
theorem sort_made {us : List Value} {rs : List Row} {A : Around} {E : Value → Shared → Prop} {Q : Value → Shared → Prop} (I : Inv X pins σ H s) (e : PySem.W.EachIs (VR H) us rs) (hne : ∀ r ∈ rs, r ≠ []) (hL : rs.length ≤ sizeLine) (hu : A.units + 8 < cLine)
    (h : ∀ p ys s', H p = none → Rws H ys (sortR rs) → Inv X pins σ (upd H p (.lst ys)) s' → Q (.ref p) s') :
    wpAny (model X.prog X.w) A (do
      let l ← newList us
      let _ ← holding [l] (call (.builtin "list.sort") [l] [])
      pure l) Q E s := by
  have hl := e.length
  refine wpAny_bind (wpAny_newList ?_ (by rw [hl]; exact hL))
  have I1 : Inv X pins σ H { s with heap := s.heap.push (PyProof.Rows.seqObj "list" us.toArray 0) } := I.kept (t' := s.toks) fun b o z => Heap.get?_push_of_some _ z
  have ho : (s.heap.push (PyProof.Rows.seqObj "list" us.toArray 0)).get? s.heap.objs.size = some (PyProof.Rows.seqObj "list" us.toArray 0) := Heap.get?_push_size _ rfl
  have er : PySem.W.EachIs (fun v r => ∃ as, Reads (s.heap.push (PyProof.Rows.seqObj "list" us.toArray 0)) v (rowD r) as ∧ s.heap.objs.size ∉ as) us rs :=
    (each_reads I1 e).mono fun _ _ ⟨as, q⟩ => ⟨as, q, reads_not q⟩
  have hal : PySem.W.AllAlike (rs.map rowD) := PySem.W.AllAlike.of alike_rowD
  have hk : PySem.W.Sortable (rs.map rowD) := .inl fun d hd => by
    obtain ⟨r, hr, rfl⟩ := List.mem_map.mp hd
    cases r with
    | nil => exact absurd rfl (hne _ hr)
    | cons x xs => exact ⟨_, _, rfl⟩
  refine wpAny_bind (wpAny_holding (PySem.W.list_sort_data (s := { s with heap := s.heap.push (PyProof.Rows.seqObj "list" us.toArray 0) }) (R := VR H) (enc := rowD) ho e er hal hk hL (fun r _ => ?_) fun out hlo eo => wpAny_pure ?_))
  · have := depth_rowD r
    omega
  · rw [dataLe_rowD] at eo
    obtain ⟨ys, rv, ry⟩ := ofVR eo
    have hp : H s.heap.objs.size = none := I.hok.fresh (Nat.le_refl _)
    obtain ⟨ep, hat⟩ := PyProof.Rows.sortedHeap_at (out := out.toArray) ho
    have lz : ys.length ≤ sizeLine := by rw [rv.length, hlo]; exact hL
    refine h _ ys _ hp ry (I.laid (t' := s.toks) (a := s.heap.objs.size) (o := .lst ys) (fun b o z => ?_) (Nat.le_refl _) ⟨lz, out, ep, rv, hat⟩)
    have hb : b < s.heap.objs.size := Heap.lt_size z
    rw [PyProof.Rows.sortedHeap_old (Nat.ne_of_lt hb) (by rw [PyProof.Rows.size_push']; exact Nat.lt_succ_of_lt hb)]
    exact Heap.get?_push_of_some _ z
/-- sorted(v), v's items by what collects them -/
theorem sorted_by {v : Value} {A : Around} {E : Value → Shared → Prop} {Q : Value → Shared → Prop} {rs : List Row} (hne : ∀ r ∈ rs, r ≠ []) (hL : rs.length ≤ sizeLine) (hu : A.units + 9 < cLine)
    (hc : wpAny (model X.prog X.w) A.in1 (collect v) (fun us s1 => Inv X pins σ H s1 ∧ PySem.W.EachIs (VR H) us rs) E s)
    (h : ∀ p ys s', H p = none → Rws H ys (sortR rs) → Inv X pins σ (upd H p (.lst ys)) s' → Q (.ref p) s') :
    wpAny (model X.prog X.w) A (call (.builtin "sorted") [v]) Q E s := by
  refine PySem.Calls.call_function_entry kind_sorted plain_sorted entry_sorted (args_sorted1 _) ?_
  unfold Builtin.«sorted»
  refine wpAny_bind (m := checkCount "sorted" 1 1 _) (wpAny_pure ?_)
  refine wpAny_bind (wpAny_mono hc (fun us s1 x => ?_) fun _ _ z => z)
  have key := sort_made (A := A.in1) (E := E) (Q := fun r s' => Q r s') x.1 x.2 hne hL (by show A.units + 1 + 8 < cLine; omega) h
  have e : (do
      let l ← newList us
      let _ ← holding [l] (call (.builtin "list.sort") [l] [])
      ret l : Sem Fin) = ((do
      let l ← newList us
      let _ ← holding [l] (call (.builtin "list.sort") [l] [])
      pure l) >>= fun l => ret l) := by simp only [bind_assoc, pure_bind]
  show wpAny _ _ (do
      let l ← newList us
      let _ ← holding [l] (call (.builtin "list.sort") [l] [])
      ret l : Sem Fin) _ _ _
  rw [e]
  exact wpAny_bind (wpAny_mono key (fun r s' x => wpAny_pure ⟨_, rfl, x⟩) fun _ _ z => z)
/-- sorted of a list or tuple of rows -/
def rSortRows (K : PySem.W.Frag) : List V → Hp → VK → Prop := fun vs H Q => ∃ (a : Addr) (xs : List V) (rs : List Row), vs = [.ref a] ∧ (SqL K H a xs ∨ SqT K H a xs) ∧ Rws H xs rs ∧ (∀ r ∈ rs, r ≠ []) ∧
  ∀ p ys, H p = none → Rws H ys (sortR rs) → Q (.ref p) (upd H p (.lst ys))
theorem paired_len {α β : Type} {F : α → β → Prop} {l : List α} {m : List β} (h : Paired F l m) : l.length = m.length := Paired.length h
theorem cr_sortRows (hc : X.calm = true) (hu : X.A.units + 9 < cLine) : CallR X (.builtin "sorted") (rSortRows X.K) := by
  intro pins s σ H vs us Q I r h
  obtain ⟨a, xs, rs, rfl, hs, hr, hne, q⟩ := h
  rw [Vals.ref1 r]
  have fin : ∀ {its : List Value} {h' : Heap}, Vals xs its → (∀ b o, s.heap.get? b = some o → h'.get? b = some o) → Inv X pins σ H { s with heap := h' } ∧ PySem.W.EachIs (VR H) its rs :=
    fun rv k => ⟨I.kept (t' := s.toks) k, eachVR hr rv⟩
  rcases hs with hs | hs
  · obtain ⟨its, rv, ⟨o, n, e1, e2, e3, e4⟩, hz⟩ := I.list hs
    have l1 := rv.length
    have l2 := paired_len hr
    refine sorted_by (X := X) (pins := pins) (σ := σ) (H := H) hne (by omega) hu (wpAny_collect_seq a (.inl rfl) e1 e2 e4 (fun h' k => ?_) (by simp only [List.size_toArray]; omega)) fun p ys s' hp hy J => ⟨.ref p, _, J, rfl, q p ys hp hy⟩
    exact fin rv k
  · obtain ⟨its, rv, ⟨o, e1, e2, n, e4⟩, hz⟩ := I.tuple hs
    have l1 := rv.length
    have l2 := paired_len hr
    refine sorted_by (X := X) (pins := pins) (σ := σ) (H := H) hne (by omega) hu (wpAny_collect_seq a (.inr rfl) e1 e2 e4 (fun h' k => ?_) (by simp only [List.size_toArray]; omega)) fun p ys s' hp hy J => ⟨.ref p, _, J, rfl, q p ys hp hy⟩
    exact fin rv k
/-- a dict whose keys are these rows, in this order -/
def keysR (rs : List Row) : List (List Key) := rs.map fun r => r.map Sum.inl
theorem kV_row (r : Row) : (r.map Sum.inl : List Key).map kV = r.map V.int := by
  rw [List.map_map]
  rfl
/-- sorted of a dict whose keys are rows -/
def rSortDict : List V → Hp → VK → Prop := fun vs H Q => ∃ (a : Addr) (kvs : List (List Key × V)) (rs : List Row), vs = [.ref a] ∧ H a = some (.dT kvs) ∧ kvs.map (·.1) = keysR rs ∧ (∀ r ∈ rs, r ≠ []) ∧
  ∀ p ys, H p = none → Rws H ys (sortR rs) → Q (.ref p) (upd H p (.lst ys))
theorem entry_key {P : Program} {w : World} {es : Array DictEntry} {xs : List (List Key × Addr × Value)} (he : es.toList = xs.map (entryOfKey (tupleKind (mixKind P w)))) {i : Nat} {en : DictEntry} (h : es[i]? = some en) : ∃ x, xs[i]? = some x ∧ en.key = .ref x.2.1 := by
  have e1 : es.toList[i]? = some en := by rw [Array.getElem?_toList]; exact h
  rw [he, List.getElem?_map] at e1
  cases q : xs[i]? with
  | none => rw [q] at e1; cases e1
  | some x =>
    rw [q] at e1
    exact ⟨x, rfl, by rw [← Option.some.inj e1]; rfl⟩
theorem kt_rows {H : Hp} : ∀ {kvs : List (List Key × V)} {xs : List (List Key × Addr × Value)} {rs : List Row}, KT H kvs xs → kvs.map (·.1) = keysR rs → Paired (fun (x : List Key × Addr × Value) r => H x.2.1 = some (.tup (r.map V.int))) xs rs
  | _, _, [], .nil, _ => .nil
  | _, _, _ :: _, .nil, h => by simp [keysR] at h
  | _, _, [], .cons _ _, h => by simp [keysR] at h
  | _, _, r :: rs, .cons (a := kv) (b := x) h t, e => by
    rw [List.map_cons, keysR, List.map_cons] at e
    have e1 := (List.cons.inj e).1
    have e2 := (List.cons.inj e).2
    refine .cons ?_ (kt_rows t e2)
    rw [h.2.1, e1, kV_row]
theorem cr_sortDict (hc : X.calm = true) (hu : X.A.units + 9 < cLine) : CallR X (.builtin "sorted") rSortDict := by
  intro pins s σ H vs us Q I r h
  obtain ⟨a, kvs, rs, rfl, ha, hk, hne, q⟩ := h
  rw [Vals.ref1 r]
  obtain ⟨z, hsm, xs, rel, o, es, ep, ho, hx, hdat, hes, hn⟩ := (show ObjOk X.prog X.w H s.heap a (.dT kvs) from I.hok a _ ha)
  have l1 := paired_len rel
  have l2 : es.size = xs.length := by
    have e := congrArg List.length hes
    simpa using e
  have l3 : kvs.length = rs.length := by
    have e := congrArg List.length hk
    simpa [keysR] using e
  have pr := kt_rows rel hk
  refine sorted_by (X := X) (pins := pins) (σ := σ) (H := H) hne (by omega) hu
    (PySem.W.kdu_collect (kdl_raw hsm hx hdat) (show X.A.in1.handled = none from I.ok.hd hc) ho (by omega) fun h' tk acc hk' hit => ⟨I.kept hk', ?_⟩)
    fun p ys s' hp hy J => ⟨.ref p, _, J, rfl, q p ys hp hy⟩
  refine PySem.W.EachIs.of_zip (by rw [Array.length_toList, hit.1]; omega) fun ⟨v, rw_⟩ hp => ?_
  obtain ⟨i, hi⟩ := List.mem_iff_getElem?.mp hp
  rw [List.getElem?_zip_eq_some] at hi
  obtain ⟨hv, hr⟩ := hi
  obtain ⟨en, hen, hve⟩ := hit.2 i v (by rw [← Array.getElem?_toList]; exact hv)
  obtain ⟨x, hxi, hkx⟩ := entry_key hes hen
  obtain ⟨r', hr', hH⟩ := Paired.at pr hxi
  have hr2 : rs[i]? = some rw_ := hr
  rw [hr2] at hr'
  cases hr'
  exact ⟨x.2.1, by rw [hve, hkx], hH⟩
end
end K40
end
section
set_option Elab.async false
set_option linter.all false
set_option maxRecDepth 100000
/-! The mirror: rows and stairs in plain Lean. -/
namespace K40
def zadd (a b : List Int) : List Int := List.zipWith (fun x y => x + y) a b
def zsub (a b : List Int) : List Int := List.zipWith (fun x y => x - y) a b
def zmax (a b : List Int) : List Int := List.zipWith max a b
/-- each step from the one before it -/
def goF (f : Int → Int → Int → Int) : List Int → Int → List Int → List Int
  | u :: us, l, x :: xs => f u l x :: goF f us (f u l x) xs
  | _, _, _ => []
def stair (us p : List Int) : List Int := match p with | [] => [] | x :: xs => x :: goF (fun u l x => u * l + x) us x xs
def up (us p : List Int) : List Int := match p with | [] => [] | x :: xs => max 0 x :: goF (fun u l x => max x (u * l)) us (max 0 x) xs
/-- back: each step from its own and the one before it -/
def goB : List Int → Int → List Int → List Int
  | u :: us, l, x :: xs => (x - u * l) :: goB us x xs
  | _, _, _ => []
def row (us s : List Int) : List Int := match s with | [] => [] | x :: xs => x :: goB us x xs
/-- from behind -/
def goD : List Int → List Int → List Int
  | u :: us, x :: xs => min x ((goD us xs).headD 0 / u) :: goD us xs
  | _, xs => xs
def geZ (a : List Int) : Bool := a.all fun x => decide (0 ≤ x)
def down (us p : List Int) : Option (List Int) := if geZ p then some (goD us p) else none
/-- one lies within the other -/
def within (a b : List Int) : Bool := geZ (zsub b a)
structure UOk (us : List Int) : Prop where
  len : us.length ≤ 3
  lo : ∀ u ∈ us, 2 ≤ u
  hi : ∀ u ∈ us, u ≤ 10
theorem goF_length (f : Int → Int → Int → Int) : ∀ (us : List Int) (l : Int) (xs : List Int), us.length = xs.length → (goF f us l xs).length = xs.length
  | [], _, [], _ => rfl
  | u :: us, l, x :: xs, h => by
    show (goF f us _ xs).length + 1 = xs.length + 1
    rw [goF_length f us _ xs (by simpa using h)]
theorem goF_at (f : Int → Int → Int → Int) : ∀ (us : List Int) (l : Int) (xs : List Int) (i : Nat) (u a x : Int), us[i]? = some u → xs[i]? = some x → (l :: goF f us l xs)[i]? = some a → (goF f us l xs)[i]? = some (f u a x)
  | v :: us, l, y :: xs, 0, u, a, x, h1, h2, h3 => by
    simp at h1 h2 h3
    subst h1 h2 h3
    simp [goF]
  | v :: us, l, y :: xs, i + 1, u, a, x, h1, h2, h3 => by
    have h1' : us[i]? = some u := by simpa using h1
    have h2' : xs[i]? = some x := by simpa using h2
    have h3' : (f v l y :: goF f us (f v l y) xs)[i]? = some a := by simpa [goF] using h3
    have ih := goF_at f us (f v l y) xs i u a x h1' h2' h3'
    simpa [goF] using ih
  | [], _, _, i, _, _, _, h1, _, _ => by simp at h1
  | _ :: _, _, [], i, _, _, _, _, h2, _ => by simp at h2
theorem goB_length : ∀ (us : List Int) (l : Int) (xs : List Int), us.length = xs.length → (goB us l xs).length = xs.length
  | [], _, [], _ => rfl
  | u :: us, l, x :: xs, h => by
    show (goB us x xs).length + 1 = xs.length + 1
    rw [goB_length us x xs (by simpa using h)]
theorem goB_at : ∀ (us : List Int) (l : Int) (xs : List Int) (i : Nat) (u a x : Int), us[i]? = some u → xs[i]? = some x → (l :: xs)[i]? = some a → (goB us l xs)[i]? = some (x - u * a)
  | v :: us, l, y :: xs, 0, u, a, x, h1, h2, h3 => by
    simp at h1 h2 h3
    subst h1 h2 h3
    simp [goB]
  | v :: us, l, y :: xs, i + 1, u, a, x, h1, h2, h3 => by
    have h1' : us[i]? = some u := by simpa using h1
    have h2' : xs[i]? = some x := by simpa using h2
    have h3' : (y :: xs)[i]? = some a := by simpa using h3
    simpa [goB] using goB_at us y xs i u a x h1' h2' h3'
  | [], _, _, i, _, _, _, h1, _, _ => by simp at h1
  | _ :: _, _, [], i, _, _, _, _, h2, _ => by simp at h2
theorem stair_length {us p : List Int} (h : p.length = us.length + 1) : (stair us p).length = us.length + 1 := by
  match p, h with
  | x :: xs, h =>
    have h' : us.length = xs.length := by simpa using h.symm
    show (goF _ us x xs).length + 1 = _
    rw [goF_length _ _ _ _ h', h']
theorem up_length {us p : List Int} (h : p.length = us.length + 1) : (up us p).length = us.length + 1 := by
  match p, h with
  | x :: xs, h =>
    have h' : us.length = xs.length := by simpa using h.symm
    show (goF _ us _ xs).length + 1 = _
    rw [goF_length _ _ _ _ h', h']
theorem row_length {us p : List Int} (h : p.length = us.length + 1) : (row us p).length = us.length + 1 := by
  match p, h with
  | x :: xs, h =>
    have h' : us.length = xs.length := by simpa using h.symm
    show (goB us _ xs).length + 1 = _
    rw [goB_length _ _ _ h', h']
theorem goD_length : ∀ (us p : List Int), p.length = us.length + 1 → (goD us p).length = us.length + 1
  | [], p, h => by
    show p.length = _
    exact h
  | u :: us, x :: xs, h => by
    show (goD us xs).length + 1 = _
    rw [goD_length us xs (by simpa using h)]
    rfl
theorem down_length {us p q : List Int} (h : p.length = us.length + 1) (e : down us p = some q) : q.length = us.length + 1 := by
  unfold down at e
  split at e
  · cases e
    exact goD_length us p h
  · cases e
theorem stair_at {us p : List Int} {i : Nat} {u a x : Int} (h1 : us[i]? = some u) (h2 : p[i + 1]? = some x) (h3 : (stair us p)[i]? = some a) : (stair us p)[i + 1]? = some (u * a + x) := by
  match p, h2, h3 with
  | y :: ys, h2, h3 =>
    have h2' : ys[i]? = some x := by simpa using h2
    have := goF_at (fun u l x => u * l + x) us y ys i u a x h1 h2' h3
    simpa [stair] using this
theorem up_at {us p : List Int} {i : Nat} {u a x : Int} (h1 : us[i]? = some u) (h2 : p[i + 1]? = some x) (h3 : (up us p)[i]? = some a) : (up us p)[i + 1]? = some (max x (u * a)) := by
  match p, h2, h3 with
  | y :: ys, h2, h3 =>
    have h2' : ys[i]? = some x := by simpa using h2
    have := goF_at (fun u l x => max x (u * l)) us (max 0 y) ys i u a x h1 h2' h3
    simpa [up] using this
theorem row_at {us p : List Int} {i : Nat} {u a x : Int} (h1 : us[i]? = some u) (h2 : p[i + 1]? = some x) (h3 : p[i]? = some a) : (row us p)[i + 1]? = some (x - u * a) := by
  match p, h2, h3 with
  | y :: ys, h2, h3 =>
    have h2' : ys[i]? = some x := by simpa using h2
    have := goB_at us y ys i u a x h1 h2' h3
    simpa [row] using this
theorem goD_at : ∀ (us p : List Int) (i : Nat) (u a x : Int), p.length = us.length + 1 → us[i]? = some u → p[i]? = some x → (goD us p)[i + 1]? = some a → (goD us p)[i]? = some (min x (a / u))
  | v :: us, y :: ys, 0, u, a, x, hl, h1, h2, h3 => by
    simp at h1 h2
    subst h1 h2
    have h3' : (goD us ys)[0]? = some a := by simpa [goD] using h3
    have e : (goD us ys).headD 0 = a := by
      match h : goD us ys with
      | [] => rw [h] at h3'; simp at h3'
      | z :: zs => rw [h] at h3'; simpa using h3'
    show (min y ((goD us ys).headD 0 / v) :: goD us ys)[0]? = _
    rw [e]
    rfl
  | v :: us, y :: ys, i + 1, u, a, x, hl, h1, h2, h3 => by
    have ih := goD_at us ys i u a x (by simpa using hl) (by simpa using h1) (by simpa using h2) (by simpa [goD] using h3)
    simpa [goD] using ih
  | [], _, i, _, _, _, _, h1, _, _ => by simp at h1
  | _ :: _, [], _, _, _, _, hl, _, _, _ => by simp at hl
theorem goD_last : ∀ (us p : List Int), p.length = us.length + 1 → (goD us p)[us.length]? = p[us.length]?
  | [], p, h => rfl
  | u :: us, x :: xs, h => by
    have ih := goD_last us xs (by simpa using h)
    simpa [goD] using ih
end K40
end
section
set_option Elab.async false
set_option linter.all false
set_option autoImplicit false
set_option maxRecDepth 100000
set_option maxHeartbeats 4000000
/-! The small defs: rows added, stairs. -/
namespace K40
open PySem PySem.Spec PyProof.Rows L2
/-- a new value as wished, all else as it was -/
abbrev Ret (H : Hp) (Q : VK) (P : Hp → V → Prop) : Prop := ∀ H' v, Same H H' → P H' v → Q v H'
theorem same_upd {H H' : Hp} {a : Addr} {o : HO} (e : Same H H') (h : H a = none) : Same H (upd H' a o) := fun b u q => by
  rw [upd_ne (ne_of_none q h)]
  exact e b u q
theorem walk_zipT {K : PySem.W.Frag} {a b : Addr} {xs ys : List V} {n : Nat} (hn : n = min xs.length ys.length) : Walk (RZ.ItzT K a b) n (fun H => SqT K H a xs ∧ SqT K H b ys) (YPair (fun i => xs[i]?) (fun i => ys[i]?)) := by
  subst hn
  refine ⟨fun i _ hi q => ?_, fun _ q => ⟨xs, ys, q.1, q.2, by omega⟩, fun i H v H' _ q y => ?_⟩
  · have h1 : i < xs.length := by omega
    have h2 : i < ys.length := by omega
    exact ⟨xs, ys, xs[i], ys[i], q.1, q.2, by simp [h1], by simp [h2]⟩
  · obtain ⟨T, x, z, h1, h2, h3, h4, h5⟩ := y
    exact ⟨T, x, z, h1, h2, h3, h4 xs q.1, h5 ys q.2⟩
/-- two rows in, one out, at each place f -/
def spZip (f : Int → Int → Int) : Sp := fun vs H Q _ => ∃ v1 v2 a b, vs = [v1, v2] ∧ TI H v1 a ∧ TI H v2 b ∧ a.length ≤ 1000 ∧ Ret H Q fun H' v => TI H' v (List.zipWith f a b)
theorem spZip_len {f : Int → Int → Int} : ∀ vs H Q E, spZip f vs H Q E → vs.length = 2 := fun vs H Q E h => by
  obtain ⟨v1, v2, a, b, rfl, _⟩ := h
  rfl
/-- its reading: a comprehension over zip, then a tuple -/
theorem zip_read {K K' : PySem.W.Frag} {a b : Row} {p q : Addr} {H : Hp} {σ : L2.St} {i j : Nat} {vs : List Nat} {te : TE} {ta : TA} {Q : VK} (f : Int → Int → Int) (hp : H p = some (.tup (a.map V.int))) (hq : H q = some (.tup (b.map V.int))) (hl : a.length ≤ 1000)
    (ha : ∀ R : List V → Hp → Prop, R [.ref p, .ref q] H → ta σ H R) (hvs : vs = [i, j]) (hw : ∀ x y : V, wipe (((wipe σ [i, j]).set i (some x)).set j (some y)) [i, j] = wipe σ [i, j])
    (turn : ∀ (x y : Int) (H' : Hp) (R : VK), R (.int (f x y)) H' → te (((wipe σ [i, j]).set i (some (.int x))).set j (some (.int y))) H' R)
    (h : ∀ D H', Same H H' → H D = none → H' D = some (.lst ((List.zipWith f a b).map V.int)) → Q (.ref D) H') :
    tLc (RZ.iZipA K ta) (gTup K' 2 (gCons (gName i) (gCons (gName j) gNil))) tYes te vs σ H Q := by
  subst hvs
  refine ha _ ⟨p, q, _, _, rfl, .inr ⟨SqT.of hp, SqT.of hq, ?_⟩⟩
  intro D hD
  refine lc_it (walk_zipT (K := K) (a := p) (b := q) (xs := a.map V.int) (ys := b.map V.int) rfl) (fun i H' => Same H H' ∧ H' D = some (.lst (((List.zipWith f a b).take i).map V.int))) ⟨same_upd (Same.refl H) hD, upd_same⟩ (fun i H' _ x => ⟨SqT.of (x.1 _ _ hp), SqT.of (x.1 _ _ hq)⟩) ?_ ?_
  · rintro k v H1 H2 hi ⟨s1, d1⟩ ⟨T, x, y, rfl, hT, rfl, hx, hy⟩
    simp only [List.length_map] at hi
    have ha : k < a.length := by omega
    have hb : k < b.length := by omega
    simp only [List.getElem?_map, List.getElem?_eq_getElem ha, Option.map_some, Option.some.injEq] at hx
    simp only [List.getElem?_map, List.getElem?_eq_getElem hb, Option.map_some, Option.some.injEq] at hy
    subst hx hy
    have nT : D ≠ T := ne_of_none d1 hT
    refine ⟨_, _, rfl, SqT.of upd_same, rfl, _, _, rfl, _, _, rfl, rfl, hw _ _, ?_⟩
    dsimp only [tYes]
    refine iteT (turn _ _ _ _ ?_)
    refine ⟨_, (upd_ne nT).trans d1, ?_, same_upd (same_upd s1 (by cases e : H T with | none => rfl | some o => rw [s1 _ _ e] at hT; cases hT)) hD, ?_⟩
    · rw [List.length_map, List.length_take]
      exact small1000 (by omega)
    · rw [upd_same]
      have hk : (List.zipWith f a b)[k]? = some (f a[k] b[k]) := by
        rw [List.getElem?_zipWith, List.getElem?_eq_getElem ha, List.getElem?_eq_getElem hb]
      rw [List.take_add_one, hk, List.map_append]
      rfl
  · rintro H1 ⟨s1, d1⟩
    refine h D H1 s1 hD ?_
    rw [d1]
    congr 2
    rw [List.take_of_length_le]
    simp
theorem max_if (i j : Int) : (if j > i then j else i) = max i j := by
  by_cases h : j > i
  · rw [if_pos h]; omega
  · rw [if_neg h]; omega
section
variable {P : Program} {w : World} {K : PySem.W.Frag} {mg : Str → Option Value} {base : Heap}
theorem scAdded : FnScope ["one", "other", "near", "far"] ["one", "other"] (defScope sAdded) := ⟨rfl, rfl, rfl, by decide +kernel, rfl, by decide +kernel, by decide +kernel⟩
theorem ok_added (T : Wd K mg) : FnOk P w K mg base CX0 1 T.added.f T.added.fd ["one", "other"] (spZip (fun x y => x + y)) := by
  refine T.added.F.ok scAdded spZip_len (fun cdv A outer s H vs Q E hr h => ⟨_, (pss_one (ps_ret (pe_callTy call_tuple_of (by rfl) T.nTuple (by decide +kernel) (pa_cons (pe_lc (g := (gTup _ 2 (gCons (gName 2) (gCons (gName 3) gNil)))) (own := [("near", 2), ("far", 3)]) rfl scAdded.nd  (RZ.pi_zipA (by rfl) T.nZip (pa_cons (pv 0) (pa_cons (pv 1) pa_nil))) (blkOk_by (N := ["one", "other", "near", "far"]) (sc := defScope sAdded) (by decide +kernel)) (fun _ _ _ _ _ => (pg_tup rfl (pgs_cons (pg_name (i := 2) scAdded.nd rfl (.inl rfl)) (pgs_cons (pg_name (i := 3) scAdded.nd rfl (.inl rfl)) pgs_nil)))) (fun _ _ _ _ _ => pts_nil) (fun _ _ _ _ _ => (pe_op op_add (pv 2) (pv 3)))) pa_nil)))), ?_⟩)
  obtain ⟨_, _, a, b, rfl, ⟨p, rfl, hp⟩, ⟨q, rfl, hq⟩, hl, k⟩ := h
  dsimp only [tRet, tCB, tCons, tNil]
  refine zip_read (i := 2) (j := 3) (fun x y => x + y) hp hq hl ?_ rfl ?_ ?_ ?_
  · exact fun R r => ⟨_, rfl, _, rfl, r⟩
  · exact fun _ _ => rfl
  · exact fun x y H' R r => ⟨_, rfl, _, rfl, x, y, rfl, rfl, r⟩
  · exact fun D H' e hD hd => ⟨D, _, rfl, .inl ⟨SqL.of hd, fun l hl' => k _ _ (same_upd e (e.free hl')) ⟨l, rfl, upd_same⟩⟩⟩
theorem scLess : FnScope ["one", "other", "near", "far"] ["one", "other"] (defScope sLess) := ⟨rfl, rfl, rfl, by decide +kernel, rfl, by decide +kernel, by decide +kernel⟩
theorem ok_less (T : Wd K mg) : FnOk P w K mg base CX0 1 T.less.f T.less.fd ["one", "other"] (spZip (fun x y => x - y)) := by
  refine T.less.F.ok scLess spZip_len (fun cdv A outer s H vs Q E hr h => ⟨_, (pss_one (ps_ret (pe_callTy call_tuple_of (by rfl) T.nTuple (by decide +kernel) (pa_cons (pe_lc (g := (gTup _ 2 (gCons (gName 2) (gCons (gName 3) gNil)))) (own := [("near", 2), ("far", 3)]) rfl scLess.nd  (RZ.pi_zipA (by rfl) T.nZip (pa_cons (pv 0) (pa_cons (pv 1) pa_nil))) (blkOk_by (N := ["one", "other", "near", "far"]) (sc := defScope sLess) (by decide +kernel)) (fun _ _ _ _ _ => (pg_tup rfl (pgs_cons (pg_name (i := 2) scLess.nd rfl (.inl rfl)) (pgs_cons (pg_name (i := 3) scLess.nd rfl (.inl rfl)) pgs_nil)))) (fun _ _ _ _ _ => pts_nil) (fun _ _ _ _ _ => (pe_op op_sub (pv 2) (pv 3)))) pa_nil)))), ?_⟩)
  obtain ⟨_, _, a, b, rfl, ⟨p, rfl, hp⟩, ⟨q, rfl, hq⟩, hl, k⟩ := h
  dsimp only [tRet, tCB, tCons, tNil]
  refine zip_read (i := 2) (j := 3) (fun x y => x - y) hp hq hl ?_ rfl ?_ ?_ ?_
  · exact fun R r => ⟨_, rfl, _, rfl, r⟩
  · exact fun _ _ => rfl
  · exact fun x y H' R r => ⟨_, rfl, _, rfl, x, y, rfl, rfl, r⟩
  · exact fun D H' e hD hd => ⟨D, _, rfl, .inl ⟨SqL.of hd, fun l hl' => k _ _ (same_upd e (e.free hl')) ⟨l, rfl, upd_same⟩⟩⟩
theorem scWBeside : FnScope ["_law_one", "_law_other", "_law_near", "_law_far"] ["_law_one", "_law_other"] (defScope sWBeside) := ⟨rfl, rfl, rfl, by decide +kernel, rfl, by decide +kernel, by decide +kernel⟩
theorem ok_wBeside (T : Wd K mg) : FnOk P w K mg base CX0 1 T.wBeside.f T.wBeside.fd ["_law_one", "_law_other"] (spZip (fun x y => x + y)) := by
  refine T.wBeside.F.ok scWBeside spZip_len (fun cdv A outer s H vs Q E hr h => ⟨_, (pss_one (ps_ret (pe_callTy call_tuple_of (by rfl) T.nTuple (by decide +kernel) (pa_cons (pe_lc (g := (gTup _ 2 (gCons (gName 2) (gCons (gName 3) gNil)))) (own := [("_law_near", 2), ("_law_far", 3)]) rfl scWBeside.nd  (RZ.pi_zipA (by rfl) T.nZip (pa_cons (pv 0) (pa_cons (pv 1) pa_nil))) (blkOk_by (N := ["_law_one", "_law_other", "_law_near", "_law_far"]) (sc := defScope sWBeside) (by decide +kernel)) (fun _ _ _ _ _ => (pg_tup rfl (pgs_cons (pg_name (i := 2) scWBeside.nd rfl (.inl rfl)) (pgs_cons (pg_name (i := 3) scWBeside.nd rfl (.inl rfl)) pgs_nil)))) (fun _ _ _ _ _ => pts_nil) (fun _ _ _ _ _ => (pe_op op_add (pv 2) (pv 3)))) pa_nil)))), ?_⟩)
  obtain ⟨_, _, a, b, rfl, ⟨p, rfl, hp⟩, ⟨q, rfl, hq⟩, hl, k⟩ := h
  dsimp only [tRet, tCB, tCons, tNil]
  refine zip_read (i := 2) (j := 3) (fun x y => x + y) hp hq hl ?_ rfl ?_ ?_ ?_
  · exact fun R r => ⟨_, rfl, _, rfl, r⟩
  · exact fun _ _ => rfl
  · exact fun x y H' R r => ⟨_, rfl, _, rfl, x, y, rfl, rfl, r⟩
  · exact fun D H' e hD hd => ⟨D, _, rfl, .inl ⟨SqL.of hd, fun l hl' => k _ _ (same_upd e (e.free hl')) ⟨l, rfl, upd_same⟩⟩⟩
theorem scWWithout : FnScope ["_law_row_here", "_law_order", "_law_near", "_law_far"] ["_law_row_here", "_law_order"] (defScope sWWithout) := ⟨rfl, rfl, rfl, by decide +kernel, rfl, by decide +kernel, by decide +kernel⟩
theorem ok_wWithout (T : Wd K mg) : FnOk P w K mg base CX0 1 T.wWithout.f T.wWithout.fd ["_law_row_here", "_law_order"] (spZip (fun x y => x - y)) := by
  refine T.wWithout.F.ok scWWithout spZip_len (fun cdv A outer s H vs Q E hr h => ⟨_, (pss_one (ps_ret (pe_callTy call_tuple_of (by rfl) T.nTuple (by decide +kernel) (pa_cons (pe_lc (g := (gTup _ 2 (gCons (gName 2) (gCons (gName 3) gNil)))) (own := [("_law_near", 2), ("_law_far", 3)]) rfl scWWithout.nd  (RZ.pi_zipA (by rfl) T.nZip (pa_cons (pv 0) (pa_cons (pv 1) pa_nil))) (blkOk_by (N := ["_law_row_here", "_law_order", "_law_near", "_law_far"]) (sc := defScope sWWithout) (by decide +kernel)) (fun _ _ _ _ _ => (pg_tup rfl (pgs_cons (pg_name (i := 2) scWWithout.nd rfl (.inl rfl)) (pgs_cons (pg_name (i := 3) scWWithout.nd rfl (.inl rfl)) pgs_nil)))) (fun _ _ _ _ _ => pts_nil) (fun _ _ _ _ _ => (pe_op op_sub (pv 2) (pv 3)))) pa_nil)))), ?_⟩)
  obtain ⟨_, _, a, b, rfl, ⟨p, rfl, hp⟩, ⟨q, rfl, hq⟩, hl, k⟩ := h
  dsimp only [tRet, tCB, tCons, tNil]
  refine zip_read (i := 2) (j := 3) (fun x y => x - y) hp hq hl ?_ rfl ?_ ?_ ?_
  · exact fun R r => ⟨_, rfl, _, rfl, r⟩
  · exact fun _ _ => rfl
  · exact fun x y H' R r => ⟨_, rfl, _, rfl, x, y, rfl, rfl, r⟩
  · exact fun D H' e hD hd => ⟨D, _, rfl, .inl ⟨SqL.of hd, fun l hl' => k _ _ (same_upd e (e.free hl')) ⟨l, rfl, upd_same⟩⟩⟩
theorem scGreaterOf : FnScope ["one", "other", "near", "far"] ["one", "other"] (defScope sGreaterOf) := ⟨rfl, rfl, rfl, by decide +kernel, rfl, by decide +kernel, by decide +kernel⟩
theorem ok_greaterOf (T : Wd K mg) : FnOk P w K mg base CX0 1 T.greaterOf.f T.greaterOf.fd ["one", "other"] (spZip (max)) := by
  refine T.greaterOf.F.ok scGreaterOf spZip_len (fun cdv A outer s H vs Q E hr h => ⟨_, (pss_one (ps_ret (pe_callTy call_tuple_of (by rfl) T.nTuple (by decide +kernel) (pa_cons (pe_lc (g := (gTup _ 2 (gCons (gName 2) (gCons (gName 3) gNil)))) (own := [("near", 2), ("far", 3)]) rfl scGreaterOf.nd  (RZ.pi_zipA (by rfl) T.nZip (pa_cons (pv 0) (pa_cons (pv 1) pa_nil))) (blkOk_by (N := ["one", "other", "near", "far"]) (sc := defScope sGreaterOf) (by decide +kernel)) (fun _ _ _ _ _ => (pg_tup rfl (pgs_cons (pg_name (i := 2) scGreaterOf.nd rfl (.inl rfl)) (pgs_cons (pg_name (i := 3) scGreaterOf.nd rfl (.inl rfl)) pgs_nil)))) (fun _ _ _ _ _ => pts_nil) (fun _ _ _ _ _ => (pe_callB (call_max2 rfl) (by rfl) T.nMax (by decide +kernel) (pa_cons (pv 2) (pa_cons (pv 3) pa_nil))))) pa_nil)))), ?_⟩)
  obtain ⟨_, _, a, b, rfl, ⟨p, rfl, hp⟩, ⟨q, rfl, hq⟩, hl, k⟩ := h
  dsimp only [tRet, tCB, tCons, tNil]
  refine zip_read (i := 2) (j := 3) (max) hp hq hl ?_ rfl ?_ ?_ ?_
  · exact fun R r => ⟨_, rfl, _, rfl, r⟩
  · exact fun _ _ => rfl
  · exact fun x y H' R r => ⟨_, rfl, _, rfl, x, y, rfl, by rw [max_if]; exact r⟩
  · exact fun D H' e hD hd => ⟨D, _, rfl, .inl ⟨SqL.of hd, fun l hl' => k _ _ (same_upd e (e.free hl')) ⟨l, rfl, upd_same⟩⟩⟩
end
end K40
end
section
set_option Elab.async false
set_option linter.all false
set_option maxRecDepth 100000
set_option maxHeartbeats 4000000
namespace K40
open PySem PySem.Spec PyProof.Rows L2
/-! ### enumerate of a tuple -/
theorem meets_enumT (t : Addr) (its : Array Value) :
    Meets (Builtin.«enumerate.__new__» ⟨[.type "enumerate", .ref t], []⟩) (fun _ R s => s.heap.IsTuple t its ∧
      R (.ok (.ret (.ref (s.heap.push { cls := .type "tuple_iterator", data := .fields #[.ref t, .int 0 0] }).objs.size)))
        { s with heap := (s.heap.push { cls := .type "tuple_iterator", data := .fields #[.ref t, .int 0 0] }).push { cls := .type "enumerate", data := .fields #[.none, .bool false, .ref s.heap.objs.size, rawInt 0, .none, .none] } }) :=
  .of_wp fun prog w A R s0 hh => by
    obtain ⟨hp, gn, dr, tok, osx⟩ := s0
    obtain ⟨isT, fin⟩ := hh
    have subE := sub_enumerate
    have beg : ∀ {A' : Around} {E : Value → Shared → Prop} {Q : Value → Shared → Prop}, Q (.ref hp.objs.size) ⟨hp.push { cls := .type "tuple_iterator", data := .fields #[.ref t, .int 0 0] }, gn, dr, tok, osx⟩ →
        wpAny (model prog w) A' (pyIter (.ref t)) Q E ⟨hp, gn, dr, tok, osx⟩ := fun q => wpAny_pyIter_tuple isT q
    wp_walk
    refine wpAny_stack_any fun stk => wpAny_pure ?_
    split
    · rename_i cc _ _ _ _ _
      cases (cc == Value.type "enumerate")
      · wp_walk using beg
        exact ⟨_, rfl, fin⟩
      · wp_walk using beg
        exact ⟨_, rfl, fin⟩
    · wp_walk using beg
      exact ⟨_, rfl, fin⟩
theorem call_enumT {prog : Program} {w : World} {A : Around} {E : Value → Shared → Prop} {s : Shared} {t : Addr} {its : Array Value} {Q : Value → Shared → Prop} (hT : s.heap.IsTuple t its)
    (fin : ∀ h', IsEnum h' (s.heap.objs.size + 1) s.heap.objs.size 0 .none → h'.IsTupleIter s.heap.objs.size t 0 → (∀ b o, s.heap.get? b = some o → h'.get? b = some o) → Q (.ref (s.heap.objs.size + 1)) { s with heap := h' }) :
    wpAny (model prog w) A (call (.type "enumerate") [.ref t]) Q E s := by
  refine callType_new F.called_enumerate (by decide) (F.typeCall_enumerate_1 _) (F.newCall_enumerate_1 _) (fun ob => F.args_object_init_2 ob _) F.entry_enumerate_new (meets_enumT t its) ⟨hT, ?_⟩
  have z1 : (s.heap.push { cls := .type "tuple_iterator", data := .fields #[.ref t, .int 0 0] }).objs.size = s.heap.objs.size + 1 := Heap.size_push ..
  have en := Heap.get?_push_size (s.heap.push { cls := .type "tuple_iterator", data := .fields #[.ref t, .int 0 0] }) (o := { cls := .type "enumerate", data := .fields #[.none, .bool false, .ref s.heap.objs.size, rawInt 0, .none, .none] }) rfl
  rw [z1] at en
  show _ ∧ _
  rw [z1]
  exact ⟨⟨_, en, rfl⟩, fin _ en ⟨_, Heap.get?_push_of_some _ (Heap.get?_push_size _ rfl), rfl, rfl⟩ fun b o x => Heap.get?_push_of_some _ (Heap.get?_push_of_some _ x)⟩
/-- the tuple at a, its items counted, in new pairs -/
def IteT (K : PySem.W.Frag) (a : Addr) : It :=
  ⟨fun i H => ∃ (xs : List V) (x : V), SqT K H a xs ∧ xs[i]? = some x, fun i H v H' => ∃ T x, v = .ref T ∧ H T = none ∧ H' = upd H T (.tup [.int (i : Nat), x]) ∧ ∀ xs, SqT K H a xs → xs[i]? = some x, fun i H => ∃ xs : List V, SqT K H a xs ∧ i = xs.length⟩
theorem turn_enumT {P : Program} {w : World} {K : PySem.W.Frag} {elts : List Expr} {kk : Nat} {tpos : Pos} (a e it : Addr) (hai : a ≠ it) (hae : a ≠ e) :
    Turn P w K (.Tuple elts kk tpos) (IteT K a) [e, it] e (fun i h => (∃ old, IsEnum h e it ((i : Nat) : Int) old) ∧ h.IsTupleIter it a i ∧ e ≠ it) where
  mem := List.mem_cons_self ..
  obj := fun i h st b hb => by
    obtain ⟨⟨old, en⟩, ⟨oi, hoi, hci, hdi⟩, _⟩ := st
    simp only [List.mem_cons, List.not_mem_nil, or_false] at hb
    rcases hb with rfl | rfl
    · exact ⟨_, en, fun v q => nomatch q⟩
    · exact ⟨oi, hoi, fun v q => by rw [hdi] at q; cases q⟩
  keep := fun i h h' st k => by
    obtain ⟨⟨old, en⟩, hi, hne⟩ := st
    exact ⟨⟨old, k e (List.mem_cons_self ..) _ en⟩, hi.at fun o q => k it (by simp) o q, hne⟩
  item := by
    intro X hP hw hK hc i pins s σ H E I hf st hg
    subst hP hw hK
    obtain ⟨⟨old, en⟩, hit, hne⟩ := st
    obtain ⟨xs, x, hq, hx⟩ := hg
    obtain ⟨its, rv, isT, hz⟩ := I.tuple hq
    obtain ⟨u, hu, ru⟩ := rv.get hx
    have iT : s.heap.IsTuple a its.toArray := isT
    have lt1 : e < s.heap.objs.size := Heap.lt_size en
    have lt2 : it < s.heap.objs.size := by obtain ⟨_, q, _⟩ := hit; exact Heap.lt_size q
    have len := rv.length
    have hi : i < its.toArray.size := by
      have := List.getElem?_eq_some_iff.mp hu
      obtain ⟨z, _⟩ := this
      simpa using z
    refine wpAny_pyNext_enum_itemD (Draws.tuple (A := X.A.in1) (I.ok.hd hc) it a hai its.toArray) en ⟨hit, iT⟩ hi hne (by simp; exact ⟨hne, fun z => hae z.symm⟩) fun v h' tk hv eo st' hT hsz hk => ?_
    have ev : v = u := by
      have q : its.toArray[i]? = some v := hv
      rw [List.getElem?_toArray, hu] at q
      exact (Option.some.inj q).symm
    subst ev
    refine ⟨_, rfl, wpAny_letOwnedTupleGo_enum (s := { s with heap := h', toks := tk + 1 }) eo fun h2 en2 sb => ?_⟩
    have hT2 : h2.get? s.heap.objs.size = some { cls := .type "tuple", data := .seq #[.int i tk, v] } := (sb.2 _ (Nat.ne_of_gt lt1)).trans hT
    have new : ObjOk X.prog X.w (upd H s.heap.objs.size (.tup [.int (i : Nat), x])) h2 s.heap.objs.size (.tup [.int (i : Nat), x]) :=
      ⟨by show 2 ≤ sizeLine; decide, [.int i tk, v], .cons ⟨_, rfl⟩ (.cons ru .nil), ⟨_, hT2, rfl, _, rfl⟩⟩
    have I1 : Inv X pins σ (upd H s.heap.objs.size (.tup [.int (i : Nat), x])) { s with heap := h2, toks := tk + 1 } :=
      I.turnedNew (ch := [e, it]) (fun b ob hb q => (sb.2 b (fun z => hb (by simp [z]))).trans (hk b ob (fun z => hb (by simp [z])) (fun z => hb (by simp [z])) q)) hf (Nat.le_refl _) new
    refine ⟨.ref s.heap.objs.size, _, I1, rfl, ⟨_, x, rfl, I.hok.fresh (Nat.le_refl _), rfl, fun ys hy => by rw [I.tuple_inj hy hq]; exact hx⟩, ⟨⟨v, ?_⟩, st'.1.at fun o q => (sb.2 it (Ne.symm hne)).trans q, hne⟩, fun b hb => ?_⟩
    · rw [show ((i + 1 : Nat) : Int) = (i : Int) + 1 by omega]
      exact en2
    · have hlt : b < s.heap.objs.size := by
        simp only [List.mem_cons, List.not_mem_nil, or_false] at hb
        rcases hb with rfl | rfl
        · exact lt1
        · exact lt2
      rw [upd_ne (Nat.ne_of_lt hlt)]
      exact (hf b hb).1
  done := by
    intro X hP hw hK hc i pins s σ H E I hf st hg
    subst hP hw hK
    obtain ⟨⟨old, en⟩, hit, hne⟩ := st
    obtain ⟨xs, hq, hx⟩ := hg
    obtain ⟨its, rv, isT, hz⟩ := I.tuple hq
    have iT : s.heap.IsTuple a its.toArray := isT
    obtain ⟨f0, f1, f2, f3, f4, f5⟩ := hf it (by simp)
    have e : i = its.toArray.size := by
      have := rv.length
      simp only [List.size_toArray]
      omega
    subst e
    exact wpAny_pyNext_enum_endD (Draws.tuple (A := X.A.in1) (I.ok.hd hc) it a hai its.toArray) en ⟨hit, iT⟩ fun h' eb => ⟨rfl, I.turned (t' := s.toks) (fun b o hb q => eb b o hb q) f0 f1 f3 f4 f5⟩
  self := fun A i s Q E st h => let ⟨⟨_, en⟩, _⟩ := st; wpAny_pyIter_enum en h
def iEnumT (K : PySem.W.Frag) (ta : TA) : L2.TI := fun σ H R => ta σ H fun vs H1 => ∃ a xs, vs = [.ref a] ∧ SqT K H1 a xs ∧ R (IteT K a) H1
theorem pi_enumT {X : Cx} {e : Expr} {ta : TA} {p pos tpos : Pos} {elts : List Expr} {kk : Nat} (hg : Gl X "enumerate") (hm : X.mg "enumerate" = none) (ha : PA X [e] ta) (hs : starEach [e] X.env = [(false, eval e X.env)] := by rfl) :
    PI X (.Tuple elts kk tpos) (.Call (.Name "enumerate" p) [e] [] pos) (iEnumT X.K ta) := by
  refine ⟨fun pins s σ H R I h => ?_⟩
  refine Call_ (ld_blt I hg hm (show bootBuiltins "enumerate" = some (.type "enumerate") by decide +kernel) (PyProof.Rows.callWith_type1 (thn (ha.run pos pins s σ H _ I h) fun us s1 ⟨vs, H1, I1, r1, a, xs, ex, hq, q⟩ => ?_) hs rfl))
  subst ex
  rw [Vals.ref1 r1]
  obtain ⟨its, rv, isT, hz⟩ := I1.tuple hq
  have lt : a < s1.heap.objs.size := by
    obtain ⟨o, ho, _⟩ := isT
    exact Heap.lt_size ho
  refine call_enumT (show s1.heap.IsTuple a its.toArray from isT) fun h' en hit hk => wpAny_pyIter_enum en ?_
  have I2 : Inv X pins σ H1 { s1 with heap := h' } := I1.kept (t' := s1.toks) hk
  refine ⟨s1.heap.objs.size + 1, [s1.heap.objs.size + 1, s1.heap.objs.size], _, _, H1, rfl, I2, turn_enumT a (s1.heap.objs.size + 1) s1.heap.objs.size (Nat.ne_of_lt lt) (Nat.ne_of_lt (Nat.lt_succ_of_lt lt)), ⟨⟨.none, en⟩, hit, Nat.succ_ne_self _⟩, fun b hb => ?_, q⟩
  have le : s1.heap.objs.size ≤ b := by
    simp only [List.mem_cons, List.not_mem_nil, or_false] at hb
    rcases hb with rfl | rfl
    · exact Nat.le_succ _
    · exact Nat.le_refl _
  exact I1.fpOk le (I1.hok.fresh le)
theorem walk_enumT {K : PySem.W.Frag} {a : Addr} {xs : List V} : Walk (IteT K a) xs.length (fun H => SqT K H a xs) (YPair (fun i => some (.int (i : Nat))) (fun i => xs[i]?)) := by
  refine ⟨fun i _ hi q => ⟨xs, xs[i], q, by simp [hi]⟩, fun _ q => ⟨xs, q, rfl⟩, fun i H v H' _ q y => ?_⟩
  obtain ⟨T, x, h1, h2, h3, h4⟩ := y
  exact ⟨T, .int (i : Nat), x, h1, h2, h3, rfl, h4 xs q⟩
end K40
end
section
set_option Elab.async false
set_option linter.all false
set_option autoImplicit false
set_option maxRecDepth 100000
set_option maxHeartbeats 4000000
/-! The defs of rows and stairs. -/
namespace K40
open PySem PySem.Spec PyProof.Rows L2
theorem take1 {S : List Int} {i : Nat} {a : Int} (h : S[i]? = some a) : (S.take (i + 1)).map V.int = (S.take i).map V.int ++ [V.int a] := by
  rw [List.take_add_one, h, List.map_append]
  rfl
theorem sIx1 (x : V) (xs : List V) : HT.sIx (x :: xs).length 0 (some 1) = 1 := (HT.sIx_nat (x :: xs).length 0 1).trans (by simp)
theorem cut1 (x : V) (xs : List V) : cutV (x :: xs) (some 1) none = xs := by
  unfold cutV
  rw [HT.sIx_none, sIx1]
  simp
/-- r[1:] is not the whole -/
theorem not_whole {n : Nat} (x : V) (xs : List V) (h : HT.sIx (x :: xs).length 0 (some 1) = 0 ∧ HT.sIx (x :: xs).length (x :: xs).length none = n) : False := by
  rw [sIx1] at h
  exact absurd h.1 (by decide)
theorem get_some {S : List Int} {i n : Nat} (h : S.length = n) (hi : i < n) : ∃ a, S[i]? = some a := ⟨S[i]'(by omega), List.getElem?_eq_getElem (by omega)⟩
theorem mapI {l : List Int} {i : Nat} {v : V} (h : (l.map V.int)[i]? = some v) : ∃ x, l[i]? = some x ∧ v = .int x := by
  rw [List.getElem?_map] at h
  cases e : l[i]? with
  | none => rw [e] at h; cases h
  | some x => rw [e] at h; exact ⟨x, rfl, (Option.some.inj h).symm⟩
theorem UOk.at {us : List Int} (u : UOk us) {i : Nat} {x : Int} (h : us[i]? = some x) : 2 ≤ x ∧ x ≤ 10 := by
  have m := List.mem_iff_getElem?.mpr ⟨i, h⟩
  exact ⟨u.lo x m, u.hi x m⟩
/-- units and a row or stair in, one out -/
def spUS (f : List Int → Row → Row) : Sp := fun vs H Q _ => ∃ v1 v2 us p, vs = [v1, v2] ∧ TI H v1 us ∧ TI H v2 p ∧ UOk us ∧ p.length = us.length + 1 ∧ Ret H Q fun H' v => TI H' v (f us p)
theorem spUS_len {f : List Int → Row → Row} : ∀ vs H Q E, spUS f vs H Q E → vs.length = 2 := fun vs H Q E h => by
  obtain ⟨v1, v2, a, b, rfl, _⟩ := h
  rfl
section
variable {P : Program} {w : World} {K : PySem.W.Frag} {mg : Str → Option Value} {base : Heap}
theorem scStairFrom : FnScope ["units", "row", "found", "ratio", "number"] ["units", "row"] (defScope sStairFrom) := ⟨rfl, rfl, rfl, by decide +kernel, rfl, by decide +kernel, by decide +kernel⟩
theorem ok_stairFrom (T : Wd K mg) : FnOk P w K mg base CX0 1 T.stairFrom.f T.stairFrom.fd ["units", "row"] (spUS stair) := by
  refine T.stairFrom.F.ok scStairFrom spUS_len (fun cdv A outer s H vs Q E hr h => ⟨_, (pss_cons (ps_set (i := 2) scStairFrom.nd rfl (.inl rfl) (pe_lst (pa_cons (pe_ix ix_tup (pv 1) pe_int (fun _ _ => rfl)) pa_nil)))
 (pss_cons (ps_for PassesOwn.never rfl (RZ.pi_zipA (by rfl) T.nZip (pa_cons (pv 0) (pa_cons (pe_slice sl_tupA (pv 1) (po_some pe_int) po_none) pa_nil))) (pg_tup rfl (pgs_cons (pg_name (i := 3) scStairFrom.nd rfl (.inl rfl)) (pgs_cons (pg_name (i := 4) scStairFrom.nd rfl (.inl rfl)) pgs_nil))) (pss_one (ps_expr (pe_bm PySem.F.plainAttrs_list PySem.F.slot_list_append PySem.F.type_list_append mt_append (pv 2) (pa_cons (pe_op op_add (pe_op op_mul (pv 3) (pe_ix ix_list (pv 2) (pe_un un_neg pe_int) (fun _ _ => rfl))) (pv 4)) pa_nil)))))
 (pss_one (ps_ret (pe_callTy call_tuple_of (by rfl) T.nTuple (by decide +kernel) (pa_cons (pv 2) pa_nil)))))), ?_⟩)
  obtain ⟨_, _, us, r, rfl, ⟨p, rfl, hp⟩, ⟨q, rfl, hq⟩, hu, hl, k⟩ := h
  obtain ⟨x, xs, rfl⟩ : ∃ x xs, r = x :: xs := by
    cases r with
    | nil => simp at hl
    | cons x xs => exact ⟨x, xs, rfl⟩
  have hxl : us.length = xs.length := by simpa using hl.symm
  have hz := hu.len
  have sl := stair_length (us := us) hl
  refine ⟨_, rfl, q, _, 0, .int x, rfl, rfl, SqT.of hq, atI_nat (j := 0) rfl, (by show 1 ≤ sizeLine; decide), fun F hF => ?_⟩
  refine ⟨_, rfl, _, rfl, 1, rfl, q, .int x :: xs.map V.int, rfl, SqT.of ((upd_ne (ne_of_none hq hF)).trans hq), fun z => (not_whole _ _ z).elim, fun _ S hS => ?_⟩
  rw [cut1]
  have sF : Same H (upd H F (.lst [V.int x])) := same_upd (Same.refl H) hF
  have s1 : Same H (upd (upd H F (.lst [V.int x])) S (.tup (xs.map V.int))) := same_upd sF (sF.free hS)
  have dF : F ≠ S := ne_of_none upd_same hS
  refine ⟨p, S, us.map V.int, xs.map V.int, rfl, .inr ⟨SqT.of (s1 _ _ hp), SqT.of upd_same, RZ.for_zipT (by simpa using hxl)
    (fun i σ H' => ∃ v3 v4, σ = [some (.ref p), some (.ref q), some (.ref F), v3, v4] ∧ Same H H' ∧ H' F = some (.lst (((stair us (x :: xs)).take (i + 1)).map V.int)) ∧ H' S = some (.tup (xs.map V.int)))
    ⟨none, none, rfl, s1, (upd_ne dF).trans upd_same, upd_same⟩ (fun i σ H' ⟨_, _, _, s2, _, hS'⟩ => ⟨SqT.of (s2 _ _ hp), SqT.of hS'⟩) ?_ ?_⟩⟩
  · rintro i u y Tu σ H' hi hy ⟨v3, v4, rfl, s2, hF', hS'⟩ hT
    obtain ⟨u, hj, rfl⟩ := mapI hi
    obtain ⟨y, hy, rfl⟩ := mapI hy
    have iu : i < us.length := (List.getElem?_eq_some_iff.mp hj).1
    obtain ⟨a, ha⟩ := get_some sl (i := i) (by omega)
    have na := stair_at (us := us) (p := x :: xs) hj (by simpa using hy) ha
    obtain ⟨u1, u2⟩ := hu.at hj
    have nT : F ≠ Tu := ne_of_none hF' hT
    have nT2 : S ≠ Tu := ne_of_none hS' hT
    have fT := s2.free hT
    refine ⟨_, _, rfl, SqT.of upd_same, rfl, _, _, rfl, _, _, rfl, rfl, ?_⟩
    have hF2 := (upd_ne (o := .tup [.int u, .int y]) nT).trans hF'
    refine ⟨_, rfl, .inl ⟨rfl, _, SqL.of hF2⟩, _, rfl, _, rfl, 1, rfl, F, _, -1, .int a, rfl, rfl, SqL.of hF2, by rw [take1 ha]; exact atI_last _ _, u, a, rfl, rfl, .inl ⟨by omega, by omega⟩, _, rfl, _, _, rfl, rfl, F, _, _, rfl, rfl, hF2, ?_, ?_⟩
    · rw [List.length_map, List.length_take]
      exact small1000 (by omega)
    · refine ⟨_, _, rfl, same_upd (same_upd s2 fT) hF, ?_, ?_⟩
      · rw [upd_same, take1 na]
      · exact (upd_ne (Ne.symm dF)).trans ((upd_ne nT2).trans hS')
  · rintro σ H' ⟨v3, v4, rfl, s2, hF', hS'⟩
    refine ⟨_, rfl, F, _, rfl, .inl ⟨SqL.of hF', fun l hl' => k _ _ (same_upd s2 (s2.free hl')) ⟨l, rfl, ?_⟩⟩⟩
    rw [upd_same, List.length_map, List.take_of_length_le (by omega)]
theorem scUpStair : FnScope ["units", "numbers", "found", "ratio", "number"] ["units", "numbers"] (defScope sUpStair) := ⟨rfl, rfl, rfl, by decide +kernel, rfl, by decide +kernel, by decide +kernel⟩
theorem ok_upStair (T : Wd K mg) : FnOk P w K mg base CX0 1 T.upStair.f T.upStair.fd ["units", "numbers"] (spUS up) := by
  refine T.upStair.F.ok scUpStair spUS_len (fun cdv A outer s H vs Q E hr h => ⟨_, (pss_cons (ps_set (i := 2) scUpStair.nd rfl (.inl rfl) (pe_lst (pa_cons (pe_callB (call_max2 rfl) (by rfl) T.nMax (by decide +kernel) (pa_cons pe_int (pa_cons (pe_ix ix_tup (pv 1) pe_int (fun _ _ => rfl)) pa_nil))) pa_nil)))
 (pss_cons (ps_for PassesOwn.never rfl (RZ.pi_zipA (by rfl) T.nZip (pa_cons (pv 0) (pa_cons (pe_slice sl_tupA (pv 1) (po_some pe_int) po_none) pa_nil))) (pg_tup rfl (pgs_cons (pg_name (i := 3) scUpStair.nd rfl (.inl rfl)) (pgs_cons (pg_name (i := 4) scUpStair.nd rfl (.inl rfl)) pgs_nil))) (pss_one (ps_expr (pe_bm PySem.F.plainAttrs_list PySem.F.slot_list_append PySem.F.type_list_append mt_append (pv 2) (pa_cons (pe_callB (call_max2 rfl) (by rfl) T.nMax (by decide +kernel) (pa_cons (pv 4) (pa_cons (pe_op op_mul (pv 3) (pe_ix ix_list (pv 2) (pe_un un_neg pe_int) (fun _ _ => rfl))) pa_nil))) pa_nil)))))
 (pss_one (ps_ret (pe_callTy call_tuple_of (by rfl) T.nTuple (by decide +kernel) (pa_cons (pv 2) pa_nil)))))), ?_⟩)
  obtain ⟨_, _, us, r, rfl, ⟨p, rfl, hp⟩, ⟨q, rfl, hq⟩, hu, hl, k⟩ := h
  obtain ⟨x, xs, rfl⟩ : ∃ x xs, r = x :: xs := by
    cases r with
    | nil => simp at hl
    | cons x xs => exact ⟨x, xs, rfl⟩
  have hxl : us.length = xs.length := by simpa using hl.symm
  have hz := hu.len
  have sl := up_length (us := us) hl
  refine ⟨_, rfl, q, _, 0, .int x, rfl, rfl, SqT.of hq, atI_nat (j := 0) rfl, 0, x, rfl, (by show 1 ≤ sizeLine; decide), fun F hF => ?_⟩
  rw [max_if]
  refine ⟨_, rfl, _, rfl, 1, rfl, q, .int x :: xs.map V.int, rfl, SqT.of ((upd_ne (ne_of_none hq hF)).trans hq), fun z => (not_whole _ _ z).elim, fun _ S hS => ?_⟩
  rw [cut1]
  have sF : Same H (upd H F (.lst [V.int (max 0 x)])) := same_upd (Same.refl H) hF
  have s1 : Same H (upd (upd H F (.lst [V.int (max 0 x)])) S (.tup (xs.map V.int))) := same_upd sF (sF.free hS)
  have dF : F ≠ S := ne_of_none upd_same hS
  refine ⟨p, S, us.map V.int, xs.map V.int, rfl, .inr ⟨SqT.of (s1 _ _ hp), SqT.of upd_same, RZ.for_zipT (by simpa using hxl)
    (fun i σ H' => ∃ v3 v4, σ = [some (.ref p), some (.ref q), some (.ref F), v3, v4] ∧ Same H H' ∧ H' F = some (.lst (((up us (x :: xs)).take (i + 1)).map V.int)) ∧ H' S = some (.tup (xs.map V.int)))
    ⟨none, none, rfl, s1, (upd_ne dF).trans upd_same, upd_same⟩ (fun i σ H' ⟨_, _, _, s2, _, hS'⟩ => ⟨SqT.of (s2 _ _ hp), SqT.of hS'⟩) ?_ ?_⟩⟩
  · rintro i u y Tu σ H' hi hy ⟨v3, v4, rfl, s2, hF', hS'⟩ hT
    obtain ⟨u, hj, rfl⟩ := mapI hi
    obtain ⟨y, hy, rfl⟩ := mapI hy
    have iu : i < us.length := (List.getElem?_eq_some_iff.mp hj).1
    obtain ⟨a, ha⟩ := get_some sl (i := i) (by omega)
    have na := up_at (us := us) (p := x :: xs) hj (by simpa using hy) ha
    obtain ⟨u1, u2⟩ := hu.at hj
    have nT : F ≠ Tu := ne_of_none hF' hT
    have nT2 : S ≠ Tu := ne_of_none hS' hT
    have fT := s2.free hT
    refine ⟨_, _, rfl, SqT.of upd_same, rfl, _, _, rfl, _, _, rfl, rfl, ?_⟩
    have hF2 := (upd_ne (o := .tup [.int u, .int y]) nT).trans hF'
    refine ⟨_, rfl, .inl ⟨rfl, _, SqL.of hF2⟩, _, rfl, _, rfl, _, rfl, 1, rfl, F, _, -1, .int a, rfl, rfl, SqL.of hF2, by rw [take1 ha]; exact atI_last _ _, u, a, rfl, rfl, .inl ⟨by omega, by omega⟩, y, u * a, rfl, F, _, _, rfl, rfl, hF2, ?_, ?_⟩
    · rw [List.length_map, List.length_take]
      exact small1000 (by omega)
    · refine ⟨_, _, rfl, same_upd (same_upd s2 fT) hF, ?_, ?_⟩
      · rw [upd_same, take1 na, max_if]
      · exact (upd_ne (Ne.symm dF)).trans ((upd_ne nT2).trans hS')
  · rintro σ H' ⟨v3, v4, rfl, s2, hF', hS'⟩
    refine ⟨_, rfl, F, _, rfl, .inl ⟨SqL.of hF', fun l hl' => k _ _ (same_upd s2 (s2.free hl')) ⟨l, rfl, ?_⟩⟩⟩
    rw [upd_same, List.length_map, List.take_of_length_le (by omega)]
end
end K40
end
section
set_option Elab.async false
set_option linter.all false
set_option autoImplicit false
set_option maxRecDepth 100000
set_option maxHeartbeats 4000000
/-! The defs of rows and stairs, on. -/
namespace K40
open PySem PySem.Spec PyProof.Rows L2
theorem min_if (i j : Int) : (if j < i then j else i) = min i j := by
  by_cases h : j < i
  · rw [if_pos h]; omega
  · rw [if_neg h]; omega
theorem geZ_min (n : Int) (ns : List Int) : geZ (n :: ns) = decide (0 ≤ ns.foldl min n) := by
  obtain ⟨h1, h2, h3⟩ := foldl_min_facts ns n
  unfold geZ
  rw [Bool.eq_iff_iff, List.all_eq_true, decide_eq_true_iff]
  constructor
  · intro h
    have h0 := h n (by simp)
    rcases h1 with e | m
    · rw [e]; simpa using h0
    · simpa using h _ (List.mem_cons_of_mem _ m)
  · intro h x hx
    rcases List.mem_cons.mp hx with e | m
    · subst e
      simp
      omega
    · have := h3 x m
      simp
      omega
/-- a row or None -/
def OptV (H : Hp) (v : V) : Option Row → Prop
  | none => v = .non
  | some r => TI H v r
def spDown : Sp := fun vs H Q _ => ∃ v1 v2 us p, vs = [v1, v2] ∧ TI H v1 us ∧ TI H v2 p ∧ UOk us ∧ p.length = us.length + 1 ∧ Ret H Q fun H' v => OptV H' v (down us p)
def spWithin : Sp := fun vs H Q _ => ∃ v1 v2 a b, vs = [v1, v2] ∧ TI H v1 a ∧ TI H v2 b ∧ a.length = b.length ∧ a ≠ [] ∧ a.length ≤ 1000 ∧ Ret H Q fun _ v => v = .bl (within a b)
def spIsFrom : Sp := fun vs H Q _ => ∃ n lo hi : Int, vs = [.int n, .int lo, .int hi] ∧ Q (.bl (decide (lo ≤ n) && decide (n ≤ hi))) H
section
variable {P : Program} {w : World} {K : PySem.W.Frag} {mg : Str → Option Value} {base : Heap}
theorem scRowFrom : FnScope ["units", "stair", "found", "index", "ratio"] ["units", "stair"] (defScope sRowFrom) := ⟨rfl, rfl, rfl, by decide +kernel, rfl, by decide +kernel, by decide +kernel⟩
theorem ok_rowFrom (T : Wd K mg) : FnOk P w K mg base CX0 1 T.rowFrom.f T.rowFrom.fd ["units", "stair"] (spUS row) := by
  refine T.rowFrom.F.ok scRowFrom spUS_len (fun cdv A outer s H vs Q E hr h => ⟨_, (pss_cons (ps_set (i := 2) scRowFrom.nd rfl (.inl rfl) (pe_lst (pa_cons (pe_ix ix_tup (pv 1) pe_int (fun _ _ => rfl)) pa_nil)))
 (pss_cons (ps_for PassesOwn.never rfl (pi_enumT (by rfl) T.nEnumerate (pa_cons (pv 0) pa_nil)) (pg_tup rfl (pgs_cons (pg_name (i := 3) scRowFrom.nd rfl (.inl rfl)) (pgs_cons (pg_name (i := 4) scRowFrom.nd rfl (.inl rfl)) pgs_nil))) (pss_one (ps_expr (pe_bm PySem.F.plainAttrs_list PySem.F.slot_list_append PySem.F.type_list_append mt_append (pv 2) (pa_cons (pe_op op_sub (pe_ix ix_tup (pv 1) (pe_op op_add (pv 3) pe_int) (fun _ _ => rfl)) (pe_op op_mul (pv 4) (pe_ix ix_tup (pv 1) (pv 3) (fun _ _ => rfl)))) pa_nil)))))
 (pss_one (ps_ret (pe_callTy call_tuple_of (by rfl) T.nTuple (by decide +kernel) (pa_cons (pv 2) pa_nil)))))), ?_⟩)
  obtain ⟨_, _, us, r, rfl, ⟨p, rfl, hp⟩, ⟨q, rfl, hq⟩, hu, hl, k⟩ := h
  obtain ⟨x, xs, rfl⟩ : ∃ x xs, r = x :: xs := by
    cases r with
    | nil => simp at hl
    | cons x xs => exact ⟨x, xs, rfl⟩
  have hxl : us.length = xs.length := by simpa using hl.symm
  have hz := hu.len
  have sl := row_length (us := us) hl
  refine ⟨_, rfl, q, _, 0, .int x, rfl, rfl, SqT.of hq, atI_nat (j := 0) rfl, (by show 1 ≤ sizeLine; decide), fun F hF => ?_⟩
  have s1 : Same H (upd H F (.lst [V.int x])) := same_upd (Same.refl H) hF
  refine ⟨_, rfl, p, us.map V.int, rfl, SqT.of (s1 _ _ hp), for_it (walk_enumT (K := K) (a := p) (xs := us.map V.int))
    (fun i σ H' => ∃ v3 v4, σ = [some (.ref p), some (.ref q), some (.ref F), v3, v4] ∧ Same H H' ∧ H' F = some (.lst (((row us (x :: xs)).take (i + 1)).map V.int)))
    ⟨none, none, rfl, s1, upd_same⟩ (fun i σ H' _ ⟨_, _, _, s2, _⟩ => SqT.of (s2 _ _ hp)) ?_ ?_⟩
  · rintro i y σ H1 H' hi ⟨v3, v4, rfl, s2, hF'⟩ ⟨Tu, y1, y2, rfl, hT, rfl, e1, e2⟩
    cases e1
    obtain ⟨u, hj, rfl⟩ := mapI e2
    have iu : i < us.length := (List.getElem?_eq_some_iff.mp hj).1
    obtain ⟨a, ha⟩ := get_some hl (i := i) (by omega)
    obtain ⟨b, hb⟩ := get_some hl (i := i + 1) (by omega)
    have na := row_at (us := us) (p := x :: xs) hj hb ha
    obtain ⟨u1, u2⟩ := hu.at hj
    have nT : F ≠ Tu := ne_of_none hF' hT
    have fT := s2.free hT
    have hF2 := (upd_ne (o := .tup [.int (i : Nat), .int u]) nT).trans hF'
    have hq2 : SqT K (upd H1 Tu (.tup [.int (i : Nat), .int u])) q ((x :: xs).map V.int) := SqT.of ((same_upd s2 fT) _ _ hq)
    refine ⟨_, _, rfl, SqT.of upd_same, rfl, _, _, rfl, _, _, rfl, rfl, ?_⟩
    refine ⟨_, rfl, .inl ⟨rfl, _, SqL.of hF2⟩, _, rfl, _, rfl, _, _, rfl, rfl, q, _, _, .int b, rfl, rfl, hq2, atI_nat (j := i + 1) (by rw [List.getElem?_map, hb]; rfl),
      _, rfl, _, rfl, _, rfl, q, _, _, .int a, rfl, rfl, hq2, atI_nat (j := i) (by rw [List.getElem?_map, ha]; rfl), u, a, rfl, rfl, .inl ⟨by omega, by omega⟩, b, u * a, rfl, rfl, F, _, _, rfl, rfl, hF2, ?_, ?_⟩
    · rw [List.length_map, List.length_take]
      exact small1000 (by omega)
    · refine ⟨_, _, rfl, same_upd (same_upd s2 fT) hF, ?_⟩
      rw [upd_same, take1 na]
  · rintro σ H' ⟨v3, v4, rfl, s2, hF'⟩
    refine ⟨_, rfl, F, _, rfl, .inl ⟨SqL.of hF', fun l hl' => k _ _ (same_upd s2 (s2.free hl')) ⟨l, rfl, ?_⟩⟩⟩
    rw [upd_same, List.length_map, List.take_of_length_le (by omega)]
theorem scDownStair : FnScope ["units", "numbers", "found", "index"] ["units", "numbers"] (defScope sDownStair) := ⟨rfl, rfl, rfl, by decide +kernel, rfl, by decide +kernel, by decide +kernel⟩
theorem ok_downStair (T : Wd K mg) : FnOk P w K mg base CX0 1 T.downStair.f T.downStair.fd ["units", "numbers"] spDown := by
  refine T.downStair.F.ok scDownStair (fun vs H Q E h => ?_) (fun cdv A outer s H vs Q E hr h => ⟨_, (pss_cons (ps_if (pt_cmpR op_lt (pe_callB (cr_minT rfl (hu_of hr)) (by rfl) T.nMin (by decide +kernel) (pa_cons (pv 1) pa_nil)) pe_int (nomark _)) (pss_one (ps_ret pe_non)) pss_nil)
 (pss_cons (ps_set (i := 2) scDownStair.nd rfl (.inl rfl) (pe_lst (pa_cons (pe_ix ix_tup (pv 1) (pe_un un_neg pe_int) (fun _ _ => rfl)) pa_nil)))
 (pss_cons (ps_for PassesOwn.never rfl (pi_revR rfl T.nReversed (prg_1 rfl T.nRange (pe_callB call_len_seq (by rfl) T.nLen (by decide +kernel) (pa_cons (pv 0) pa_nil)))) (pg_name (i := 3) scDownStair.nd rfl (.inl rfl)) (pss_one (ps_expr (pe_bm PySem.F.plainAttrs_list PySem.F.slot_list_append PySem.F.type_list_append mt_append (pv 2) (pa_cons (pe_callB (call_min2 rfl) (by rfl) T.nMin (by decide +kernel) (pa_cons (pe_ix ix_tup (pv 1) (pv 3) (fun _ _ => rfl)) (pa_cons (pe_op op_fdiv (pe_ix ix_list (pv 2) (pe_un un_neg pe_int) (fun _ _ => rfl)) (pe_ix ix_tup (pv 0) (pv 3) (fun _ _ => rfl))) pa_nil))) pa_nil)))))
 (pss_one (ps_ret (RT.pe_tupRev rfl rfl T.nTuple rfl T.nReversed (pv 2))))))), ?_⟩)
  · obtain ⟨v1, v2, a, b, rfl, _⟩ := h
    rfl
  obtain ⟨_, _, us, r, rfl, ⟨p, rfl, hp⟩, ⟨q, rfl, hq⟩, hu, hl, k⟩ := h
  obtain ⟨x, xs, rfl⟩ : ∃ x xs, r = x :: xs := by
    cases r with
    | nil => simp at hl
    | cons x xs => exact ⟨x, xs, rfl⟩
  have hz := hu.len
  have sl := goD_length us (x :: xs) hl
  refine ⟨_, rfl, q, x, xs, rfl, SqT.of hq, _, _, rfl, rfl, _, rfl, ?_⟩
  refine ite2 (fun hm => ?_) (fun hm => ?_)
  · have e : down us (x :: xs) = none := by
      unfold down
      rw [geZ_min, if_neg]
      simp only [decide_eq_true_eq] at hm ⊢
      omega
    rw [e] at k
    exact k _ _ (Same.refl H) rfl
  · have e : down us (x :: xs) = some (goD us (x :: xs)) := by
      unfold down
      rw [geZ_min, if_pos]
      simp only [decide_eq_true_eq] at hm ⊢
      omega
    rw [e] at k
    obtain ⟨z, hzl⟩ := get_some hl (i := us.length) (by omega)
    have hgl := goD_last us (x :: xs) hl
    have dl : (x :: xs) = (x :: xs).take us.length ++ [z] := by
      have := List.take_add_one (l := x :: xs) (i := us.length)
      rw [hzl, ← hl, List.take_length] at this
      exact this
    refine ⟨_, rfl, _, rfl, q, _, -1, .int z, rfl, rfl, SqT.of hq, ?_, (by show 1 ≤ sizeLine; decide), fun F hF => ?_⟩
    · rw [dl, List.map_append]
      exact atI_last _ _
    have s1 : Same H (upd H F (.lst [V.int z])) := same_upd (Same.refl H) hF
    refine ⟨_, rfl, p, _, rfl, .inr (SqT.of (s1 _ _ hp)), _, rfl, by decide, by decide, by omega, ?_, ?_⟩
    · rw [List.length_map]
      omega
    refine for_it walk_rangeC
      (fun i σ H' => i ≤ us.length ∧ ∃ v3, σ = [some (.ref p), some (.ref q), some (.ref F), v3] ∧ Same H H' ∧ H' F = some (.lst (((goD us (x :: xs)).drop (us.length - i)).reverse.map V.int)))
      ⟨Nat.zero_le _, none, rfl, s1, ?_⟩ (fun _ _ _ _ _ => trivial) ?_ ?_
    · rw [upd_same]
      congr 2
      have : (goD us (x :: xs)).drop us.length = [z] := by
        have e1 : (goD us (x :: xs))[us.length]? = some z := by rw [hgl, hzl]
        obtain ⟨h1, h2⟩ := List.getElem?_eq_some_iff.mp e1
        rw [List.drop_eq_getElem_cons h1, h2, List.drop_of_length_le (by omega)]
      rw [Nat.sub_zero, this]
      rfl
    · rintro i y σ H1 H' hi ⟨hi2, v3, rfl, s2, hF'⟩ ⟨rfl, rfl⟩
      have hi' : i < us.length := by simpa using hi
      obtain ⟨j, hj⟩ : ∃ j, j + 1 = us.length - i := ⟨us.length - i - 1, by omega⟩
      obtain ⟨u, hju⟩ := get_some (S := us) rfl (i := j) (by omega)
      obtain ⟨b, hb⟩ := get_some hl (i := j) (by omega)
      obtain ⟨a, ha⟩ := get_some sl (i := j + 1) (by omega)
      have na := goD_at us (x :: xs) j u a b hl hju hb ha
      obtain ⟨u1, u2⟩ := hu.at hju
      have ej : (0 : Int) + ((((us.map V.int).length : Int) - 0).toNat : Int) - 1 + (i : Nat) * (-1) = ((j : Nat) : Int) := by
        rw [List.length_map]
        omega
      dsimp only
      rw [ej]
      have dr : ((goD us (x :: xs)).drop (us.length - i)).reverse.map V.int = (((goD us (x :: xs)).drop (j + 1 + 1)).reverse.map V.int) ++ [.int a] := by
        rw [← hj]
        obtain ⟨h1, h2⟩ := List.getElem?_eq_some_iff.mp ha
        rw [List.drop_eq_getElem_cons h1, h2, List.reverse_cons, List.map_append]
        rfl
      refine ⟨_, rfl, .inl ⟨rfl, _, SqL.of hF'⟩, _, rfl, _, rfl, q, _, _, .int b, rfl, rfl, SqT.of (s2 _ _ hq), atI_nat (j := j) (by rw [List.getElem?_map, hb]; rfl),
        _, rfl, 1, rfl, F, _, -1, .int a, rfl, rfl, SqL.of hF', by rw [dr]; exact atI_last _ _, _, rfl, _, rfl, p, _, _, .int u, rfl, rfl, SqT.of (s2 _ _ hp), atI_nat (j := j) (by rw [List.getElem?_map, hju]; rfl),
        a, u, rfl, rfl, ⟨by omega, by omega⟩, b, a / u, rfl, F, _, _, rfl, rfl, hF', ?_, ?_⟩
      · rw [List.length_map, List.length_reverse, List.length_drop]
        exact small1000 (by omega)
      · refine ⟨by omega, _, rfl, same_upd s2 hF, ?_⟩
        rw [upd_same, min_if]
        congr 2
        have e2 : us.length - (i + 1) = j := by omega
        obtain ⟨h1, h2⟩ := List.getElem?_eq_some_iff.mp na
        rw [e2, List.drop_eq_getElem_cons h1, h2, List.reverse_cons, List.map_append, hj]
        rfl
    · rintro σ H' ⟨_, v3, rfl, s2, hF'⟩
      refine ⟨_, rfl, F, _, rfl, SqL.of hF', fun l hl' => k _ _ (same_upd s2 (s2.free hl')) ⟨l, rfl, ?_⟩⟩
      rw [upd_same]
      have e2 : us.length - ((((us.map V.int).length : Int) - 0).toNat) = 0 := by
        rw [List.length_map]
        omega
      rw [e2, List.drop_zero, List.map_reverse, List.reverse_reverse]
theorem scLiesWithin : FnScope ["one", "other"] ["one", "other"] (defScope sLiesWithin) := ⟨rfl, rfl, rfl, by decide +kernel, rfl, by decide +kernel, by decide +kernel⟩
theorem ok_liesWithin (T : Wd K mg) : FnOk P w K mg base CX0 2 T.liesWithin.f T.liesWithin.fd ["one", "other"] spWithin := by
  have GLess : FnOk P w K mg base CX0 1 T.less.f T.less.fd ["one", "other"] (spZip fun x y => x - y) := ok_less T
  refine T.liesWithin.F.ok scLiesWithin (fun vs H Q E h => ?_) (fun cdv A outer s H vs Q E hr h => ⟨_, (pss_one (ps_ret (pe_cmpR op_ge (pe_callB (cr_minT rfl (hu_of hr)) (by rfl) T.nMin (by decide +kernel) (pa_cons (pe_call GLess (hr.mono (by first | decide | omega)) rfl T.less.g T.less.F.kp T.less.b .nil pass0 (pa_cons (pv 1) (pa_cons (pv 0) pa_nil))) pa_nil)) pe_int (nomark _)))), ?_⟩)
  · obtain ⟨v1, v2, a, b, rfl, _⟩ := h
    rfl
  obtain ⟨_, _, a, b, rfl, ⟨p, rfl, hp⟩, ⟨q, rfl, hq⟩, hl, hne, hz, k⟩ := h
  refine ⟨_, rfl, _, rfl, _, _, b, a, rfl, ⟨q, rfl, hq⟩, ⟨p, rfl, hp⟩, by omega, fun H' v e hv => ?_⟩
  obtain ⟨c, rfl, hc⟩ := hv
  obtain ⟨y, ys, ey⟩ : ∃ y ys, zsub b a = y :: ys := by
    cases a with
    | nil => exact absurd rfl hne
    | cons x xs =>
      cases b with
      | nil => simp at hl
      | cons y ys => exact ⟨_, _, rfl⟩
  have hc' : H' c = some (.tup ((y :: ys).map V.int)) := by rw [← ey]; exact hc
  refine ⟨c, y, ys, rfl, SqT.of hc', _, _, rfl, rfl, k _ _ e ?_⟩
  unfold within
  rw [ey, geZ_min]
theorem scIsFrom : FnScope ["value", "low", "high"] ["value", "low", "high"] (defScope sIsFrom) := ⟨rfl, rfl, rfl, by decide +kernel, rfl, by decide +kernel, by decide +kernel⟩
theorem ok_isFrom (T : Wd K mg) : FnOk P w K mg base CX0 1 T.isFrom.f T.isFrom.fd ["value", "low", "high"] spIsFrom := by
  refine T.isFrom.F.ok scIsFrom (fun vs H Q E h => ?_) (fun cdv A outer s H vs Q E hr h => ⟨_, (pss_one (ps_ret (pe_and (pe_callB call_isi (by rfl) T.nIsinstance (by decide +kernel) (pa_cons (pv 0) (pa_cons (pe_bltn (v := .ty "int") (u := .type "int") rfl T.nInt (by decide +kernel) rfl) pa_nil))) (pe_and (pe_not (pe_callB call_isi (by rfl) T.nIsinstance (by decide +kernel) (pa_cons (pv 0) (pa_cons (pe_bltn (v := .ty "bool") (u := .type "bool") rfl T.nBool (by decide +kernel) rfl) pa_nil)))) (pe_one (pe_chain op_le op_le (pv 1) (pv 0) (pv 2))))))), ?_⟩)
  · obtain ⟨n, lo, hi, rfl, _⟩ := h
    rfl
  obtain ⟨n, lo, hi, rfl, k⟩ := h
  refine ⟨_, rfl, .int n, .ty "int", _, _, true, rfl, .ty _, .base (.int n), kit_ty (by decide +kernel), true, rfl, iteT ?_⟩
  refine ⟨_, rfl, .int n, .ty "bool", _, _, false, rfl, .ty _, .base (.int n), kit_ty (by decide +kernel), false, rfl, true, rfl, iteT ?_⟩
  refine ⟨_, rfl, _, rfl, _, _, rfl, rfl, _, rfl, ?_⟩
  by_cases h1 : lo ≤ n
  · rw [if_pos (decide_eq_true h1)]
    refine ⟨_, rfl, _, _, rfl, rfl, ?_⟩
    rw [decide_eq_true h1, Bool.true_and] at k
    exact k
  · rw [if_neg (by simpa using h1)]
    rw [decide_eq_false h1, Bool.false_and] at k
    exact k
end
end K40
end
section
set_option Elab.async false
set_option linter.all false
set_option autoImplicit false
set_option maxRecDepth 100000
/-! The mirror: lists of stairs. -/
namespace K40
open PySem PySem.Spec PyProof.Rows L2
def enough (found : List Row) (s : Row) : Bool := found.any fun one => within one s
def addKey (rs : List Row) (r : Row) : List Row := if r ∈ rs then rs else rs ++ [r]
def dedupR (ss : List Row) : List Row := ss.foldl addKey []
def unlike (ss : List Row) : List Row := sortR (dedupR ss)
def keptGo : List Row → List Row → Option (List Row)
  | found, [] => some found
  | found, s :: ss => if enough found s = true then keptGo found ss else if 40 < found.length + 1 then none else keptGo (found ++ [s]) ss
def kept (ss : List Row) : Option (List Row) := keptGo [] (unlike ss)
def greatStep (found : List Row) (s : Row) : List Row := if (found.filter fun one => within s one).isEmpty = true then found ++ [s] else found
def greatest (ss : List Row) : List Row := (unlike ss).reverse.foldl greatStep []
def pairs (a b : List Row) : List Row := a.flatMap fun x => b.map fun y => zmax x y
def rowsOf (us : List Int) (ss : List Row) : List Row := sortR (ss.map (row us))
theorem addKey_mem {rs : List Row} {r x : Row} : x ∈ addKey rs r ↔ x ∈ rs ∨ x = r := by
  unfold addKey
  by_cases h : r ∈ rs
  · rw [if_pos h]
    constructor
    · exact .inl
    · rintro (h1 | rfl)
      · exact h1
      · exact h
  · rw [if_neg h]
    simp
theorem dedup_mem_go {x : Row} : ∀ (ss rs : List Row), x ∈ ss.foldl addKey rs ↔ x ∈ rs ∨ x ∈ ss
  | [], rs => by simp
  | s :: ss, rs => by
    rw [List.foldl_cons, dedup_mem_go ss (addKey rs s), addKey_mem, List.mem_cons]
    constructor
    · rintro ((h | h) | h)
      · exact .inl h
      · exact .inr (.inl h)
      · exact .inr (.inr h)
    · rintro (h | h | h)
      · exact .inl (.inl h)
      · exact .inl (.inr h)
      · exact .inr h
theorem dedup_mem {ss : List Row} {x : Row} : x ∈ dedupR ss ↔ x ∈ ss := by
  unfold dedupR
  rw [dedup_mem_go]
  simp
theorem unlike_mem {ss : List Row} {x : Row} : x ∈ unlike ss ↔ x ∈ ss := by
  unfold unlike sortR
  rw [List.mem_mergeSort, dedup_mem]
theorem addKey_length (rs : List Row) (r : Row) : (addKey rs r).length ≤ rs.length + 1 := by
  unfold addKey
  split
  · omega
  · simp
theorem dedup_length_go : ∀ (ss rs : List Row), (ss.foldl addKey rs).length ≤ rs.length + ss.length
  | [], rs => by simp
  | s :: ss, rs => by
    have h1 := dedup_length_go ss (addKey rs s)
    have h2 := addKey_length rs s
    simp only [List.foldl_cons, List.length_cons]
    omega
theorem dedup_length (ss : List Row) : (dedupR ss).length ≤ ss.length := by
  have := dedup_length_go ss []
  simpa [dedupR] using this
theorem unlike_length (ss : List Row) : (unlike ss).length ≤ ss.length := by
  unfold unlike sortR
  rw [List.length_mergeSort]
  exact dedup_length ss
theorem inl_inj {r s : Row} (h : (r.map Sum.inl : List Key) = s.map Sum.inl) : r = s := by
  induction r generalizing s with
  | nil =>
    cases s with
    | nil => rfl
    | cons y ys => simp at h
  | cons x xs ih =>
    cases s with
    | nil => simp at h
    | cons y ys =>
      simp only [List.map_cons, List.cons.injEq, Sum.inl.injEq] at h
      rw [h.1, ih h.2]
theorem keys_put {kvs : List (List Key × V)} {rs : List Row} (r : Row) (v : V) (h : kvs.map (·.1) = keysR rs) : (putK kvs (r.map Sum.inl) v).map (·.1) = keysR (addKey rs r) := by
  have e : (kvs.any fun kv => decide (kv.1 = (r.map Sum.inl : List Key))) = decide (r ∈ rs) := by
    rw [Bool.eq_iff_iff, List.any_eq_true, decide_eq_true_iff]
    constructor
    · rintro ⟨kv, m, q⟩
      have m2 : kv.1 ∈ kvs.map (·.1) := List.mem_map.mpr ⟨kv, m, rfl⟩
      rw [h, of_decide_eq_true q] at m2
      obtain ⟨s, hs, e⟩ := List.mem_map.mp m2
      rw [← inl_inj e]
      exact hs
    · intro m
      have m2 : (r.map Sum.inl : List Key) ∈ kvs.map (·.1) := by
        rw [h]
        exact List.mem_map.mpr ⟨r, m, rfl⟩
      obtain ⟨kv, m3, e⟩ := List.mem_map.mp m2
      exact ⟨kv, m3, decide_eq_true e⟩
  unfold putK addKey
  rw [e]
  by_cases m : r ∈ rs
  · rw [if_pos (decide_eq_true m), if_pos m, ← h, List.map_map]
    refine List.map_congr_left fun kv _ => ?_
    show (if kv.1 = _ then (kv.1, v) else kv).1 = kv.1
    split <;> rfl
  · rw [if_neg (by simpa using m), if_neg m, List.map_append, h]
    simp [keysR]
theorem keptGo_length : ∀ (ss found : List Row) (out : List Row), found.length ≤ 40 → keptGo found ss = some out → out.length ≤ 40
  | [], found, out, h, e => by
    cases e
    exact h
  | s :: ss, found, out, h, e => by
    unfold keptGo at e
    split at e
    · exact keptGo_length ss found out h e
    · split at e
      · cases e
      · exact keptGo_length ss _ out (by rw [List.length_append]; simp; omega) e
theorem kept_length {ss out : List Row} (e : kept ss = some out) : out.length ≤ 40 := keptGo_length _ _ _ (by simp) e
theorem keptGo_mem {x : Row} : ∀ (ss found : List Row) (out : List Row), keptGo found ss = some out → x ∈ out → x ∈ found ∨ x ∈ ss
  | [], found, out, e, m => by
    cases e
    exact .inl m
  | s :: ss, found, out, e, m => by
    unfold keptGo at e
    split at e
    · rcases keptGo_mem ss found out e m with q | q
      · exact .inl q
      · exact .inr (List.mem_cons_of_mem _ q)
    · split at e
      · cases e
      · rcases keptGo_mem ss _ out e m with q | q
        · rcases List.mem_append.mp q with q | q
          · exact .inl q
          · exact .inr (by simp at q; simp [q])
        · exact .inr (List.mem_cons_of_mem _ q)
theorem kept_mem {ss out : List Row} {x : Row} (e : kept ss = some out) (m : x ∈ out) : x ∈ ss := by
  rcases keptGo_mem _ _ _ e m with q | q
  · simp at q
  · exact unlike_mem.mp q
theorem great_mem_go {x : Row} : ∀ (ss found : List Row), x ∈ ss.foldl greatStep found → x ∈ found ∨ x ∈ ss
  | [], found, m => .inl m
  | s :: ss, found, m => by
    rcases great_mem_go ss _ m with q | q
    · unfold greatStep at q
      split at q
      · rcases List.mem_append.mp q with q | q
        · exact .inl q
        · exact .inr (by simp at q; simp [q])
      · exact .inl q
    · exact .inr (List.mem_cons_of_mem _ q)
theorem great_mem {ss : List Row} {x : Row} (m : x ∈ greatest ss) : x ∈ ss := by
  rcases great_mem_go _ _ m with q | q
  · simp at q
  · exact unlike_mem.mp (List.mem_reverse.mp q)
end K40
end
section
set_option Elab.async false
set_option linter.all false
set_option autoImplicit false
set_option maxRecDepth 100000
set_option maxHeartbeats 4000000
/-! The exception classes of the top, and their __init__. -/
namespace K40
open PySem PySem.Spec PyProof.Rows L2
structure Ex (K : PySem.W.Frag) (mg : Str → Option Value) (x qual f : Str) (st : Stmt) where
  C : Addr
  fI : Addr
  fd : FuncData
  g : mg x = some (.ref C)
  ex : ExcC K C fI
  no : PySem.W.findIn K (.ref C) f = some none
  F : Fun K "__init__" qual st fI fd
  b : Binds K fd ["self", f] []
structure We (K : PySem.W.Frag) (mg : Str → Option Value) extends Wd K mg where
  badUnits : Ex K mg "BadUnits" "BadUnits.__init__" "value" sBadUnitsInit
  badRow : Ex K mg "BadRow" "BadRow.__init__" "value" sBadRowInit
  badPlan : Ex K mg "BadPlan" "BadPlan.__init__" "path" sBadPlanInit
  tooGreat : Ex K mg "TooGreat" "TooGreat.__init__" "most" sTooGreatInit
  Y : Addr
  gY : mg "YardError" = some (.ref Y)
  yard : YardC K Y
  uu : PySem.W.exmOne K (.ref badUnits.C) (.ref badUnits.C) = some true
  pu : PySem.W.exmOne K (.ref badPlan.C) (.ref badUnits.C) = some false
  pp : PySem.W.exmOne K (.ref badPlan.C) (.ref badPlan.C) = some true
  ru : PySem.W.exmOne K (.ref badRow.C) (.ref badUnits.C) = some false
  rp : PySem.W.exmOne K (.ref badRow.C) (.ref badPlan.C) = some false
  rr : PySem.W.exmOne K (.ref badRow.C) (.ref badRow.C) = some true
  gu : PySem.W.exmOne K (.ref tooGreat.C) (.ref badUnits.C) = some false
  gp : PySem.W.exmOne K (.ref tooGreat.C) (.ref badPlan.C) = some false
  gr : PySem.W.exmOne K (.ref tooGreat.C) (.ref badRow.C) = some false
  gg : PySem.W.exmOne K (.ref tooGreat.C) (.ref tooGreat.C) = some true
section
variable {P : Program} {w : World} {K : PySem.W.Frag} {mg : Str → Option Value} {base : Heap}
theorem scBadUnitsInit : FnScope ["self", "value"] ["self", "value"] (defScope sBadUnitsInit) := ⟨rfl, rfl, rfl, by decide +kernel, rfl, by decide +kernel, by decide +kernel⟩
theorem ok_badUnitsInit (T : We K mg) : FnOk P w K mg base CX0 1 T.badUnits.fI T.badUnits.fd ["self", "value"] (spInit "value" K) := by
  refine T.badUnits.F.ok scBadUnitsInit spInit_len (fun cdv A outer s H vs Q E hr h => ⟨_, (pss_cons (ps_expr (pe_yinit T.yard rfl T.gY (pa_cons (pv 0) (pa_cons pe_str pa_nil)))) (pss_one (ps_ost (pv 0) (pv 1)))), ?_⟩)
  obtain ⟨a, C, v, rfl, ox, no, ha, k⟩ := h
  exact ⟨_, rfl, a, C, _, rfl, by show 1 ≤ 1000; decide, ox, ha, _, rfl, _, rfl, a, C, rfl, ox, no, .inl ⟨ha, fun dx h1 h2 => k dx h1 h2⟩⟩
theorem scBadRowInit : FnScope ["self", "value"] ["self", "value"] (defScope sBadRowInit) := ⟨rfl, rfl, rfl, by decide +kernel, rfl, by decide +kernel, by decide +kernel⟩
theorem ok_badRowInit (T : We K mg) : FnOk P w K mg base CX0 1 T.badRow.fI T.badRow.fd ["self", "value"] (spInit "value" K) := by
  refine T.badRow.F.ok scBadRowInit spInit_len (fun cdv A outer s H vs Q E hr h => ⟨_, (pss_cons (ps_expr (pe_yinit T.yard rfl T.gY (pa_cons (pv 0) (pa_cons pe_str pa_nil)))) (pss_one (ps_ost (pv 0) (pv 1)))), ?_⟩)
  obtain ⟨a, C, v, rfl, ox, no, ha, k⟩ := h
  exact ⟨_, rfl, a, C, _, rfl, by show 1 ≤ 1000; decide, ox, ha, _, rfl, _, rfl, a, C, rfl, ox, no, .inl ⟨ha, fun dx h1 h2 => k dx h1 h2⟩⟩
theorem scBadPlanInit : FnScope ["self", "path"] ["self", "path"] (defScope sBadPlanInit) := ⟨rfl, rfl, rfl, by decide +kernel, rfl, by decide +kernel, by decide +kernel⟩
theorem ok_badPlanInit (T : We K mg) : FnOk P w K mg base CX0 1 T.badPlan.fI T.badPlan.fd ["self", "path"] (spInit "path" K) := by
  refine T.badPlan.F.ok scBadPlanInit spInit_len (fun cdv A outer s H vs Q E hr h => ⟨_, (pss_cons (ps_expr (pe_yinit T.yard rfl T.gY (pa_cons (pv 0) (pa_cons pe_str pa_nil)))) (pss_one (ps_ost (pv 0) (pv 1)))), ?_⟩)
  obtain ⟨a, C, v, rfl, ox, no, ha, k⟩ := h
  exact ⟨_, rfl, a, C, _, rfl, by show 1 ≤ 1000; decide, ox, ha, _, rfl, _, rfl, a, C, rfl, ox, no, .inl ⟨ha, fun dx h1 h2 => k dx h1 h2⟩⟩
theorem scTooGreatInit : FnScope ["self", "most"] ["self", "most"] (defScope sTooGreatInit) := ⟨rfl, rfl, rfl, by decide +kernel, rfl, by decide +kernel, by decide +kernel⟩
theorem ok_tooGreatInit (T : We K mg) : FnOk P w K mg base CX0 1 T.tooGreat.fI T.tooGreat.fd ["self", "most"] (spInit "most" K) := by
  refine T.tooGreat.F.ok scTooGreatInit spInit_len (fun cdv A outer s H vs Q E hr h => ⟨_, (pss_cons (ps_expr (pe_yinit T.yard rfl T.gY (pa_cons (pv 0) (pa_cons pe_str pa_nil)))) (pss_one (ps_ost (pv 0) (pv 1)))), ?_⟩)
  obtain ⟨a, C, v, rfl, ox, no, ha, k⟩ := h
  exact ⟨_, rfl, a, C, _, rfl, by show 1 ≤ 1000; decide, ox, ha, _, rfl, _, rfl, a, C, rfl, ox, no, .inl ⟨ha, fun dx h1 h2 => k dx h1 h2⟩⟩
end
end K40
end
section
set_option Elab.async false
set_option linter.all false
set_option autoImplicit false
set_option maxRecDepth 100000
set_option maxHeartbeats 4000000
/-! The defs of lists of stairs. -/
namespace K40
open PySem PySem.Spec PyProof.Rows L2
theorem TI.upd {H : Hp} {v : V} {ns : Row} {F : Addr} {o : HO} (h : TI H v ns) (hF : ∀ xs, H F ≠ some (.tup xs)) : TI (upd H F o) v ns := by
  obtain ⟨a, rfl, h⟩ := h
  refine ⟨a, rfl, ?_⟩
  rw [upd_ne fun z => hF _ (by rw [← z]; exact h)]
  exact h
theorem Rws.upd {H : Hp} {vs : List V} {rs : List Row} {F : Addr} {o : HO} (h : Rws H vs rs) (hF : ∀ xs, H F ≠ some (.tup xs)) : Rws (upd H F o) vs rs := Paired.mp' h fun _ _ q => q.upd hF
theorem notT {H : Hp} {F : Addr} {o : HO} (h : H F = some o) (d : ∀ xs, o ≠ .tup xs) : ∀ xs, H F ≠ some (.tup xs) := fun xs z => by
  rw [h] at z
  exact d xs (Option.some.inj z)
theorem notN {H : Hp} {F : Addr} (h : H F = none) : ∀ xs, H F ≠ some (.tup xs) := fun xs z => by
  rw [h] at z
  cases z
theorem Rws.same {H H' : Hp} {vs : List V} {rs : List Row} (h : Rws H vs rs) (e : Same H H') : Rws H' vs rs := h.mono (.of e)
theorem TI.same {H H' : Hp} {v : V} {ns : Row} (h : TI H v ns) (e : Same H H') : TI H' v ns := h.mono (.of e)
/-- all of one length -/
def Len (n : Nat) (ss : List Row) : Prop := ∀ s ∈ ss, s.length = n
theorem Rws.nth {H : Hp} {vs : List V} {rs : List Row} (h : Rws H vs rs) {i : Nat} {v : V} (e : vs[i]? = some v) : ∃ r, rs[i]? = some r ∧ TI H v r := Paired.at h e
theorem Len.nth {n : Nat} {ss : List Row} (h : Len n ss) {i : Nat} {s : Row} (e : ss[i]? = some s) : s.length = n := h s (List.mem_iff_getElem?.mpr ⟨i, e⟩)
theorem paired_length {H : Hp} {vs : List V} {rs : List Row} (h : Rws H vs rs) : vs.length = rs.length := Paired.length h
theorem size_small {n : Nat} (h : n ≤ 200000) : n < sizeLine := Nat.lt_of_le_of_lt h (by decide)
theorem take_snoc {α : Type} {l : List α} {i : Nat} {x : α} (h : l[i]? = some x) : l.take (i + 1) = l.take i ++ [x] := by
  rw [List.take_add_one, h]
  rfl
theorem hu9_of {A : Around} {k : Nat} (hr : Room k A) : A.units + 9 < cLine := by
  have := hr.un
  omega
theorem hu65_of {A : Around} {k : Nat} (hr : Room k A) : A.units + 65 < cLine := by
  have := hr.un
  omega
theorem hu64_of {A : Around} {k : Nat} (hr : Room k A) : A.units + 64 < cLine := by
  have := hr.un
  omega
/-- a new list of rows -/
def NewL (H H' : Hp) (v : V) (rs : List Row) : Prop := ∃ a vs, v = .ref a ∧ H a = none ∧ H' a = some (.lst vs) ∧ Rws H' vs rs
theorem NewL.lr {H H' : Hp} {v : V} {rs : List Row} (h : NewL H H' v rs) : LR H' v rs := by
  obtain ⟨a, vs, rfl, _, h1, h2⟩ := h
  exact ⟨a, vs, rfl, h1, h2⟩
/-- all but F stays -/
def Sb (F : Addr) (H H' : Hp) : Prop := ∀ b o, b ≠ F → H b = some o → H' b = some o
theorem Sb.refl (F : Addr) (H : Hp) : Sb F H H := fun _ _ _ h => h
theorem Sb.trans {F : Addr} {H H1 H2 : Hp} (a : Sb F H H1) (b : Sb F H1 H2) : Sb F H H2 := fun c o n h => b c o n (a c o n h)
theorem Sb.of {F : Addr} {H H' : Hp} (e : Same H H') : Sb F H H' := fun b o _ h => e b o h
theorem Sb.upd {F : Addr} {H H' : Hp} {o : HO} (e : Sb F H H') : Sb F H (upd H' F o) := fun b u n h => by
  rw [upd_ne n]
  exact e b u n h
theorem Sb.new {F b : Addr} {H H' : Hp} {o : HO} (e : Sb F H H') (hb : H' b = none) : Sb F H (L2.upd H' b o) := fun c u n h => by
  rw [upd_ne (ne_of_none (e c u n h) hb)]
  exact e c u n h
theorem Sb.same {F : Addr} {H H' : Hp} (e : Sb F H H') (hF : H F = none) : Same H H' := fun b o h => e b o (ne_of_none h hF) h
theorem Sb.tups {F : Addr} {H H' : Hp} (e : Sb F H H') (hF : ∀ xs, H F ≠ some (.tup xs)) : TupsStay H H' := fun b xs h => e b _ (fun z => hF xs (by rw [← z]; exact h)) h
def spEnough (n : Nat) : Sp := fun vs H Q _ => ∃ v1 v2 ss s, vs = [v1, v2] ∧ LR H v1 ss ∧ TI H v2 s ∧ Len n ss ∧ s.length = n ∧ 0 < n ∧ n ≤ 1000 ∧ Ret H Q fun _ v => v = .bl (enough ss s)
def spUnlike (n : Nat) : Sp := fun vs H Q _ => ∃ v ss, vs = [v] ∧ LR H v ss ∧ Len n ss ∧ 0 < n ∧ ss.length ≤ 100000 ∧ Ret H Q fun H' v => NewL H H' v (unlike ss)
def spGreatest (n : Nat) : Sp := fun vs H Q _ => ∃ v ss, vs = [v] ∧ LR H v ss ∧ Len n ss ∧ 0 < n ∧ n ≤ 1000 ∧ ss.length ≤ 100000 ∧ Ret H Q fun H' v => NewL H H' v (greatest ss)
/-- what is told where it is too great -/
abbrev TooG (C : Addr) (H : Hp) (E : XK) : Prop := ∀ H' d, Same H H' → H d = none → H' d = some (.xd [("most", .int 40)]) → E (.ref C) (some d) H'
def spKept (C : Addr) (n : Nat) : Sp := fun vs H Q E => ∃ v ss, vs = [v] ∧ LR H v ss ∧ Len n ss ∧ 0 < n ∧ n ≤ 1000 ∧ ss.length ≤ 100000 ∧
  (∀ r, kept ss = some r → Ret H Q fun H' v => NewL H H' v r) ∧ (kept ss = none → TooG C H E)
section
variable {P : Program} {w : World} {K : PySem.W.Frag} {mg : Str → Option Value} {base : Heap} {n : Nat}
theorem scIsEnough : FnScope ["stairs", "stair", "one"] ["stairs", "stair"] (defScope sIsEnough) := ⟨rfl, rfl, rfl, by decide +kernel, rfl, by decide +kernel, by decide +kernel⟩
theorem ok_isEnough (T : Wd K mg) : FnOk P w K mg base CX0 3 T.isEnough.f T.isEnough.fd ["stairs", "stair"] (spEnough n) := by
  have GLiesWithin := ok_liesWithin (P := P) (w := w) (base := base) T
  refine T.isEnough.F.ok scIsEnough (fun vs H Q E h => ?_) (fun cdv A outer s H vs Q E hr h => ⟨_, (pss_cons (ps_for PassesOwn.never rfl (pi_list (pv 0)) (pg_name (i := 2) scIsEnough.nd rfl (.inl rfl)) (pss_one (ps_if (pt_val (pe_call GLiesWithin (hr.mono (by first | decide | omega)) rfl T.liesWithin.g T.liesWithin.F.kp T.liesWithin.b .nil pass0 (pa_cons (pv 2) (pa_cons (pv 1) pa_nil)))) (pss_one (ps_ret pe_bl)) pss_nil)))
 (pss_one (ps_ret pe_bl))), ?_⟩)
  · obtain ⟨v1, v2, a, b, rfl, _⟩ := h
    rfl
  obtain ⟨_, v2, ss, t, rfl, ⟨l, vs, rfl, hl, hr⟩, ht, hn, htn, n0, n1, k⟩ := h
  have hlen := paired_length hr
  refine ⟨_, rfl, l, rfl, ⟨_, SqL.of hl⟩, for_list (xs := vs) (fun i σ H' => ∃ v3, σ = [some (.ref l), some v2, v3] ∧ Same H H' ∧ enough (ss.take i) t = false)
    ⟨none, rfl, Same.refl H, rfl⟩ (fun i σ H' _ ⟨_, _, s2, _⟩ => SqL.of (s2 _ _ hl)) ?_ ?_⟩
  · rintro i v σ H' hv ⟨v3, rfl, s2, no⟩
    obtain ⟨r, hri, tr⟩ := hr.nth hv
    have rn := hn.nth hri
    refine ⟨_, rfl, _, rfl, v, v2, r, t, rfl, tr.same s2, ht.same s2, by omega, fun z => ?_, by omega, fun H2 b s3 eb => ?_⟩
    · rw [z] at rn
      simp at rn
      omega
    subst eb
    have st : enough (ss.take (i + 1)) t = within r t := by
      unfold enough at no ⊢
      rw [take_snoc hri, List.any_append, no]
      simp
    refine ⟨_, rfl, ite2 (fun c => ?_) (fun c => ?_)⟩
    · refine k _ _ (s2.trans s3) ?_
      have e : enough ss t = true := by
        have h1 : enough (ss.take (i + 1)) t = true := by rw [st]; exact c
        unfold enough at h1 ⊢
        obtain ⟨x, hx, hxt⟩ := List.any_eq_true.mp h1
        exact List.any_eq_true.mpr ⟨x, List.mem_of_mem_take hx, hxt⟩
      rw [e]
    · exact ⟨_, rfl, s2.trans s3, by rw [st]; simpa using c⟩
  · rintro σ H' ⟨v3, rfl, s2, no⟩
    refine k _ _ s2 ?_
    rw [hlen, List.take_length] at no
    rw [no]
theorem scUnlikeOf : FnScope ["stairs", "found", "stair"] ["stairs"] (defScope sUnlikeOf) := ⟨rfl, rfl, rfl, by decide +kernel, rfl, by decide +kernel, by decide +kernel⟩
theorem ok_unlikeOf (T : Wd K mg) : FnOk P w K mg base CX0 1 T.unlikeOf.f T.unlikeOf.fd ["stairs"] (spUnlike n) := by
  refine T.unlikeOf.F.ok scUnlikeOf (fun vs H Q E h => ?_) (fun cdv A outer s H vs Q E hr h => ?_)
  · obtain ⟨v1, a, rfl, _⟩ := h
    rfl
  refine ⟨_, (pss_cons (ps_set (i := 1) scUnlikeOf.nd rfl (.inl rfl) pe_dnewT)
 (pss_cons (ps_for PassesOwn.never rfl (pi_list (pv 0)) (pg_name (i := 2) scUnlikeOf.nd rfl (.inl rfl)) (pss_one (ps_dput (hu_of hr) (pv 1) (pv 2) pe_bl rfl)))
 (pss_one (ps_ret (pe_callB (cr_sortDict rfl (hu9_of hr)) (by rfl) T.nSorted (by decide +kernel) (pa_cons (pv 1) pa_nil)))))), ?_⟩
  obtain ⟨_, ss, rfl, ⟨l, vs, rfl, hl, hw⟩, hn, n0, hz, k⟩ := h
  have hlen := paired_length hw
  refine fun d hd => ?_
  have s1 : Same H (upd H d (.dT [])) := same_upd (Same.refl H) hd
  refine ⟨_, rfl, l, rfl, ⟨_, SqL.of (s1 _ _ hl)⟩, for_list (xs := vs) (fun i σ H' => ∃ v3 kvs, σ = [some (.ref l), some (.ref d), v3] ∧ Same H H' ∧ H' d = some (.dT kvs) ∧ kvs.map (·.1) = keysR (dedupR (ss.take i)))
    ⟨none, [], rfl, s1, upd_same, rfl⟩ (fun i σ H' _ ⟨_, _, _, s2, _⟩ => SqL.of (s2 _ _ hl)) ?_ ?_⟩
  · rintro i v σ H' hv ⟨v3, kvs, rfl, s2, hd', hk⟩
    obtain ⟨r, hri, tr⟩ := hw.nth hv
    obtain ⟨a, rfl, ha⟩ := tr.same s2
    have lk : kvs.length ≤ 100000 := by
      have e := congrArg List.length hk
      have q := dedup_length (ss.take i)
      rw [List.length_map] at e
      rw [e]
      unfold keysR
      rw [List.length_map]
      have := List.length_take_le' i ss
      omega
    refine ⟨_, rfl, _, rfl, d, _, rfl, DPut.t (k := r.map Sum.inl) hd' (by rw [kV_row]; exact ha) (size_small (by omega)), ?_⟩
    refine ⟨_, _, rfl, same_upd s2 hd, upd_same, ?_⟩
    rw [keys_put r _ hk]
    unfold dedupR
    rw [take_snoc hri, List.foldl_append]
    rfl
  · rintro σ H' ⟨v3, kvs, rfl, s2, hd', hk⟩
    rw [hlen, List.take_length] at hk
    refine ⟨_, rfl, d, kvs, dedupR ss, rfl, hd', hk, fun r m z => ?_, fun p ys hp hy => ?_⟩
    · have e := hn r (dedup_mem.mp m)
      rw [z] at e
      simp at e
      omega
    · exact k _ _ (same_upd s2 (s2.free hp)) ⟨p, ys, rfl, s2.free hp, upd_same, hy.upd (notN hp)⟩
theorem scKept : FnScope ["stairs", "found", "stair"] ["stairs"] (defScope sKept) := ⟨rfl, rfl, rfl, by decide +kernel, rfl, by decide +kernel, by decide +kernel⟩
theorem ok_kept (T : We K mg) : FnOk P w K mg base (L2.CX P w) 4 T.kept.f T.kept.fd ["stairs"] (spKept T.tooGreat.C n) := by
  have GUnlikeOf := ok_unlikeOf (P := P) (w := w) (base := base) (n := n) T.toWd
  have GIsEnough := ok_isEnough (P := P) (w := w) (base := base) (n := n) T.toWd
  refine T.kept.F.okX scKept (fun vs H Q E h => ?_) (fun cdv A outer s H vs Q E hr h => ⟨_, (pss_cons (ps_set (i := 1) scKept.nd rfl (.inl rfl) (pe_lst pa_nil))
 (pss_cons (ps_for (passes_of rfl) rfl (pi_list (pe_call GUnlikeOf (hr.mono (by first | decide | omega)) rfl T.unlikeOf.g T.unlikeOf.F.kp T.unlikeOf.b .nil pass0 (pa_cons (pv 0) pa_nil))) (pg_name (i := 2) scKept.nd rfl (.inl rfl)) (pss_one (ps_if (pt_not (pt_val (pe_call GIsEnough (hr.mono (by first | decide | omega)) rfl T.isEnough.g T.isEnough.F.kp T.isEnough.b .nil pass0 (pa_cons (pv 1) (pa_cons (pv 2) pa_nil))))) (pss_cons (ps_expr (pe_bm PySem.F.plainAttrs_list PySem.F.slot_list_append PySem.F.type_list_append mt_append (pv 1) (pa_cons (pv 2) pa_nil)))
 (pss_one (ps_if (pt_cmpR op_gt (pe_callB call_len_seq (by rfl) T.nLen (by decide +kernel) (pa_cons (pv 1) pa_nil)) (pe_glob (v := .int 40) rfl T.cMostLeast ⟨_, rfl⟩) (nomark _)) (pss_one (ps_raiseC rfl (takes_of rfl rfl rfl rfl) T.tooGreat.ex T.tooGreat.no (ok_tooGreatInit T) (k := 1) (hr.mono (by first | decide | omega)) T.tooGreat.b rfl T.tooGreat.g (pe_glob (v := .int 40) rfl T.cMostLeast ⟨_, rfl⟩))) pss_nil))) pss_nil)))
 (pss_one (ps_ret (pv 1))))), ?_⟩)
  · obtain ⟨v1, a, rfl, _⟩ := h
    rfl
  obtain ⟨_, ss, rfl, ⟨l, vs, rfl, hl, hw⟩, hn, n0, n1, hz, kS, kN⟩ := h
  refine ⟨by show 0 ≤ sizeLine; decide, fun F hF => ?_⟩
  have s1 : Same H (upd H F (.lst [])) := same_upd (Same.refl H) hF
  refine ⟨_, rfl, _, ss, rfl, ⟨l, vs, rfl, s1 _ _ hl, hw.same s1⟩, hn, n0, hz, ?_⟩
  rintro Hb v sb ⟨u, uvs, rfl, nu, hu, hru⟩
  have hFb : Hb F = some (.lst []) := sb _ _ upd_same
  have neF : u ≠ F := fun z => by
    rw [z, upd_same] at nu
    cases nu
  have ul := unlike_length ss
  have unn : Len n (unlike ss) := fun x m => hn x (unlike_mem.mp m)
  refine ⟨u, rfl, ⟨_, SqL.of hu⟩, for_list (xs := uvs) (fun i σ H' => ∃ acc vs' v3, σ = [some (.ref l), some (.ref F), v3] ∧ Sb F Hb H' ∧ H' F = some (.lst vs') ∧ Rws H' vs' acc ∧ keptGo acc ((unlike ss).drop i) = kept ss ∧ Len n acc ∧ acc.length ≤ 40)
    ⟨[], [], none, rfl, Sb.refl F Hb, hFb, .nil, rfl, fun _ m => absurd m (by simp), by simp⟩ (fun i σ H' _ ⟨_, _, _, _, s2, _⟩ => SqL.of (s2 _ _ neF hu)) ?_ ?_⟩
  · rintro i v σ H' hv ⟨acc, vs', v3, rfl, s2, hF', hr', hk, ln, la⟩
    obtain ⟨r, hri, tr⟩ := hru.nth hv
    have rn := unn.nth hri
    have tr2 := tr.mono (s2.tups (notT hFb fun _ z => by cases z))
    have hd : (unlike ss).drop i = r :: (unlike ss).drop (i + 1) := by
      obtain ⟨h1, h2⟩ := List.getElem?_eq_some_iff.mp hri
      rw [List.drop_eq_getElem_cons h1, h2]
    rw [hd] at hk
    unfold keptGo at hk
    refine ⟨_, rfl, _, rfl, _, v, acc, r, rfl, ⟨F, vs', rfl, hF', hr'⟩, tr2, ln, rn, n0, n1, fun H2 b s3 eb => ?_⟩
    subst eb
    have s4 : Sb F Hb H2 := s2.trans (.of s3)
    refine ⟨_, rfl, ite2 (fun c => ?_) (fun c => ?_)⟩
    · have c' : enough acc r = false := by simpa using c
      rw [c', if_neg (by decide)] at hk
      have hF2 := s3 _ _ hF'
      have pl : vs'.length = acc.length := paired_length hr'
      refine ⟨_, rfl, .inl ⟨rfl, _, SqL.of hF2⟩, _, rfl, F, vs', v, rfl, rfl, hF2, size_small (by omega), ?_⟩
      refine ⟨_, rfl, F, _, rfl, .inl (SqL.of upd_same), _, _, rfl, rfl, _, rfl, ?_⟩
      have nF : ∀ xs, H2 F ≠ some (.tup xs) := notT hF2 fun _ z => by cases z
      refine ite2 (fun c2 => ?_) (fun c2 => ?_)
      · have c3 : 40 < acc.length + 1 := by
          have := of_decide_eq_true c2
          rw [List.length_append] at this
          simp at this
          omega
        rw [if_pos c3] at hk
        intro d hd2
        have q : Same H (upd H2 F (.lst (vs' ++ [v]))) := (((Sb.of (s1.trans sb)).trans s4).upd).same hF
        exact kN hk.symm _ d (same_upd q (q.free hd2)) (q.free hd2) upd_same
      · have c3 : ¬ 40 < acc.length + 1 := fun z => c2 (decide_eq_true (by rw [List.length_append]; simp; omega))
        rw [if_neg c3] at hk
        refine ⟨acc ++ [r], _, _, rfl, s4.upd, upd_same, Paired.app ((hr'.same s3).upd nF) (.cons (((tr2.same s3)).upd nF) .nil), hk, ?_, ?_⟩
        · intro x m
          rcases List.mem_append.mp m with q | q
          · exact ln x q
          · simp at q
            rw [q]
            exact rn
        · rw [List.length_append]
          simp
          omega
    · have c' : enough acc r = true := by simpa using c
      rw [c', if_pos rfl] at hk
      exact ⟨acc, vs', _, rfl, s4, s3 _ _ hF', hr'.same s3, hk, ln, la⟩
  · rintro σ H' ⟨acc, vs', v3, rfl, s2, hF', hr', hk, ln, la⟩
    rw [paired_length hru, List.drop_length] at hk
    exact ⟨_, rfl, kS acc hk.symm H' _ (((Sb.of (s1.trans sb)).trans s2).same hF) ⟨F, vs', rfl, hF, hF', hr'⟩⟩
end
end K40
end
section
set_option Elab.async false
set_option linter.all false
set_option autoImplicit false
set_option maxRecDepth 100000
set_option maxHeartbeats 4000000
/-! The defs of lists of stairs, on. -/
namespace K40
open PySem PySem.Spec PyProof.Rows L2
theorem TI.upd_lst {H : Hp} {v : V} {ns : Row} {F : Addr} {o : HO} {xs : List V} (h : TI H v ns) (hF : H F = some (.lst xs)) : TI (L2.upd H F o) v ns := h.upd (notT hF fun _ z => by cases z)
theorem Rws.upd_lst {H : Hp} {vs : List V} {rs : List Row} {F : Addr} {o : HO} {xs : List V} (h : Rws H vs rs) (hF : H F = some (.lst xs)) : Rws (L2.upd H F o) vs rs := h.upd (notT hF fun _ z => by cases z)
/-- a comprehension over a list of rows: those with pr, each by f -/
theorem lcR {K : PySem.W.Frag} {rs : List Row} {H : Hp} {σ : L2.St} {i : Nat} {vsl : List Nat} {tl : TE} {tt : TT} {te : TE} {Q : VK} (pr : Row → Bool) (f : Row → Row) (hz : rs.length ≤ 100000)
    (hw : ∀ x : V, wipe ((wipe σ [i]).set i (some x)) [i] = wipe σ [i]) (hv : vsl = [i])
    (htl : ∀ R : VK, (∀ H1 l vs, Same H H1 → H1 l = some (.lst vs) → Rws H1 vs rs → R (.ref l) H1) → tl σ H R)
    (htt : ∀ v r H' (R : Bool → Hp → Prop), r ∈ rs → Same H H' → TI H' v r → (∀ H3, Same H' H3 → R (pr r) H3) → tt ((wipe σ [i]).set i (some v)) H' R)
    (hte : ∀ v r H' (R : VK), r ∈ rs → pr r = true → Same H H' → TI H' v r → (∀ H3 v', Same H' H3 → TI H3 v' (f r) → R v' H3) → te ((wipe σ [i]).set i (some v)) H' R)
    (h : ∀ D H' vs', Same H H' → H D = none → H' D = some (.lst vs') → Rws H' vs' ((rs.filter pr).map f) → Q (.ref D) H') :
    tLc (iList K tl) (gName i) tt te vsl σ H Q := by
  subst hv
  refine htl _ fun H1 l vs e1 hl hr => ⟨l, rfl, ⟨_, SqL.of hl⟩, fun D hD => ?_⟩
  have hlen := paired_length hr
  refine lc_it (walk_list (K := K) (a := l) (xs := vs)) (fun k H' => Same H1 H' ∧ ∃ acc, H' D = some (.lst acc) ∧ Rws H' acc (((rs.take k).filter pr).map f))
    ⟨same_upd (Same.refl H1) hD, [], upd_same, .nil⟩ (fun k H' _ x => SqL.of (x.1 _ _ hl)) ?_ ?_
  · rintro k v H2 H' hk ⟨s2, acc, hd, ha⟩ ⟨rfl, hx⟩
    obtain ⟨r, hri, tr⟩ := hr.nth hx
    have hm : r ∈ rs := List.mem_iff_getElem?.mpr ⟨k, hri⟩
    have tk : ((rs.take (k + 1)).filter pr) = (rs.take k).filter pr ++ (if pr r = true then [r] else []) := by
      rw [take_snoc hri, List.filter_append]
      congr 1
      rw [List.filter_cons]
      simp
    refine ⟨hw v, htt v r _ _ hm (e1.trans s2) (tr.same s2) fun H3 s3 => ?_⟩
    have s13 : Same H1 H3 := s2.trans s3
    have hd3 := s3 _ _ hd
    by_cases c : pr r = true
    · rw [if_pos c]
      refine hte v r _ _ hm c (e1.trans s13) (tr.same s13) fun H4 v' s4 t4 => ?_
      have hd4 := s4 _ _ hd3
      refine ⟨acc, hd4, ?_, same_upd (s13.trans s4) hD, _, upd_same, ?_⟩
      · rw [paired_length ha, List.length_map]
        refine size_small ?_
        have := List.length_filter_le pr (rs.take k)
        have := List.length_take_le' k rs
        omega
      · rw [tk, if_pos c, List.map_append]
        exact Paired.app (((ha.same s3).same s4).upd_lst hd4) (.cons (t4.upd_lst hd4) .nil)
    · rw [if_neg c]
      refine ⟨s13, acc, hd3, ?_⟩
      rw [tk, if_neg c, List.append_nil]
      exact ha.same s3
  · rintro H2 ⟨s2, acc, hd, ha⟩
    rw [hlen, List.take_length] at ha
    exact h D H2 acc (e1.trans s2) (e1.free hD) hd ha
theorem filter_true {α : Type} : ∀ l : List α, l.filter (fun _ => true) = l
  | [] => rfl
  | x :: l => by
    rw [List.filter_cons, if_pos rfl, filter_true l]
/-- the outer and the inner turns of a comprehension of two clauses -/
theorem lc_it' {J : It} {n : Nat} {G : Hp → Prop} {Y : Nat → Hp → V → Hp → Prop} (w : Walk J n G Y) {T : V → Hp → (Hp → Prop) → Prop} {H1 : Hp} {D : Addr} {Qd : Hp → Prop} (Pv : Nat → Hp → Prop) (h0 : Pv 0 (upd H1 D (.lst []))) (hG : ∀ i H, i ≤ n → Pv i H → G H)
    (hs : ∀ i x H H', i < n → Pv i H → Y i H x H' → T x H' (Pv (i + 1))) (hd : ∀ H, Pv n H → Qd H) :
    ∃ W : Nat → Nat → Hp → Prop, (∃ m, W 0 m (upd H1 D (.lst []))) ∧ ∀ i m H, W i m H →
      (J.stop i H ∧ Qd H) ∨ (J.go i H ∧ ∃ Nx : Hp → Prop, (∀ H', Nx H' → ∃ m', m' < m ∧ W (i + 1) m' H') ∧ ∀ x H', J.yld i H x H' → T x H' Nx) := by
  refine ⟨fun i m H => m = n - i ∧ i ≤ n ∧ Pv i H, ⟨n, by simp, Nat.zero_le _, h0⟩, ?_⟩
  rintro i m H ⟨rfl, hi, p⟩
  by_cases hlt : i < n
  · exact .inr ⟨w.goes i H hlt (hG i H hi p), Pv (i + 1), fun H' p' => ⟨n - (i + 1), by omega, rfl, hlt, p'⟩, fun x H' y => hs i x H H' hlt p (w.yields i H x H' hlt (hG i H hi p) y)⟩
  · have e : i = n := by omega
    subst e
    exact .inl ⟨w.stops H (hG i H hi p), hd H p⟩
theorem lc_in {J : It} {n : Nat} {G : Hp → Prop} {Y : Nat → Hp → V → Hp → Prop} (w : Walk J n G Y) {T : V → Hp → (Hp → Prop) → Prop} {H1 : Hp} {Qd : Hp → Prop} (Pv : Nat → Hp → Prop) (h0 : Pv 0 H1) (hG : ∀ i H, i ≤ n → Pv i H → G H)
    (hs : ∀ i x H H', i < n → Pv i H → Y i H x H' → T x H' (Pv (i + 1))) (hd : ∀ H, Pv n H → Qd H) :
    ∃ W : Nat → Nat → Hp → Prop, (∃ m, W 0 m H1) ∧ ∀ i m H, W i m H →
      (J.stop i H ∧ Qd H) ∨ (J.go i H ∧ ∃ Nx : Hp → Prop, (∀ H', Nx H' → ∃ m', m' < m ∧ W (i + 1) m' H') ∧ ∀ x H', J.yld i H x H' → T x H' Nx) := by
  refine ⟨fun i m H => m = n - i ∧ i ≤ n ∧ Pv i H, ⟨n, by simp, Nat.zero_le _, h0⟩, ?_⟩
  rintro i m H ⟨rfl, hi, p⟩
  by_cases hlt : i < n
  · exact .inr ⟨w.goes i H hlt (hG i H hi p), Pv (i + 1), fun H' p' => ⟨n - (i + 1), by omega, rfl, hlt, p'⟩, fun x H' y => hs i x H H' hlt p (w.yields i H x H' hlt (hG i H hi p) y)⟩
  · have e : i = n := by omega
    subst e
    exact .inl ⟨w.stops H (hG i H hi p), hd H p⟩
theorem pairs_length (a b : List Row) : (pairs a b).length = a.length * b.length := by
  unfold pairs
  induction a with
  | nil => simp
  | cons x xs ih =>
    rw [List.flatMap_cons, List.length_append, ih, List.length_map, List.length_cons, Nat.succ_mul, Nat.add_comm]
def spPairs (n : Nat) : Sp := fun vs H Q _ => ∃ v1 v2 a b, vs = [v1, v2] ∧ LR H v1 a ∧ LR H v2 b ∧ Len n a ∧ Len n b ∧ n ≤ 1000 ∧ a.length ≤ 300 ∧ b.length ≤ 300 ∧ Ret H Q fun H' v => NewL H H' v (pairs a b)
/-- a new tuple of rows -/
def NewT (H H' : Hp) (v : V) (rs : List Row) : Prop := ∃ a vs, v = .ref a ∧ H a = none ∧ H' a = some (.tup vs) ∧ Rws H' vs rs
theorem NewT.tr {H H' : Hp} {v : V} {rs : List Row} (h : NewT H H' v rs) : TR H' v rs := by
  obtain ⟨a, vs, rfl, _, h1, h2⟩ := h
  exact ⟨a, vs, rfl, h1, h2⟩
def spRows : Sp := fun vs H Q _ => ∃ v1 v2 us ss, vs = [v1, v2] ∧ TI H v1 us ∧ LR H v2 ss ∧ UOk us ∧ Len (us.length + 1) ss ∧ ss.length ≤ 1000 ∧ Ret H Q fun H' v => NewT H H' v (rowsOf us ss)
section
variable {P : Program} {w : World} {K : PySem.W.Frag} {mg : Str → Option Value} {base : Heap} {n : Nat}
theorem scGreatestOf : FnScope ["stairs", "found", "stair", "one"] ["stairs"] (defScope sGreatestOf) := ⟨rfl, rfl, rfl, by decide +kernel, rfl, by decide +kernel, by decide +kernel⟩
theorem ok_greatestOf (T : Wd K mg) : FnOk P w K mg base CX0 3 T.greatestOf.f T.greatestOf.fd ["stairs"] (spGreatest n) := by
  have GUnlikeOf := ok_unlikeOf (P := P) (w := w) (base := base) (n := n) T
  have GLiesWithin := ok_liesWithin (P := P) (w := w) (base := base) T
  refine T.greatestOf.F.ok scGreatestOf (fun vs H Q E h => ?_) (fun cdv A outer s H vs Q E hr h => ⟨_, (pss_cons (ps_set (i := 1) scGreatestOf.nd rfl (.inl rfl) (pe_lst pa_nil))
 (pss_cons (ps_for PassesOwn.never rfl (RT.pi_revA rfl T.nReversed (pe_call GUnlikeOf (hr.mono (by first | decide | omega)) rfl T.unlikeOf.g T.unlikeOf.F.kp T.unlikeOf.b .nil pass0 (pa_cons (pv 0) pa_nil))) (pg_name (i := 2) scGreatestOf.nd rfl (.inr rfl)) (pss_one (ps_if (pt_cmpR op_eq (pe_callB call_len_seq (by rfl) T.nLen (by decide +kernel) (pa_cons (pe_lc (g := (gName 3)) (own := [("one", 3)]) rfl scGreatestOf.nd  (pi_list (pv 1)) (blkOk_by (N := ["stairs", "found", "stair", "one"]) (sc := defScope sGreatestOf) (by decide +kernel)) (fun _ _ _ _ _ => (pg_name (i := 3) scGreatestOf.nd rfl (.inl rfl))) (fun _ _ _ _ _ => pts_one (pt_val (pe_call GLiesWithin (hr.mono (by first | decide | omega)) rfl T.liesWithin.g T.liesWithin.F.kp T.liesWithin.b .nil pass0 (pa_cons (pv 2) (pa_cons (pv 3) pa_nil))))) (fun _ _ _ _ _ => (pv 3))) pa_nil)) pe_int (nomark _)) (pss_one (ps_expr (pe_bm PySem.F.plainAttrs_list PySem.F.slot_list_append PySem.F.type_list_append mt_append (pv 1) (pa_cons (pv 2) pa_nil)))) pss_nil)))
 (pss_one (ps_ret (pv 1))))), ?_⟩)
  · obtain ⟨v1, a, rfl, _⟩ := h
    rfl
  obtain ⟨_, ss, rfl, ⟨l, vs, rfl, hl, hw⟩, hn, n0, n1, hz, k⟩ := h
  refine ⟨by show 0 ≤ sizeLine; decide, fun F hF => ?_⟩
  have s1 : Same H (upd H F (.lst [])) := same_upd (Same.refl H) hF
  refine ⟨_, rfl, _, ss, rfl, ⟨l, vs, rfl, s1 _ _ hl, hw.same s1⟩, hn, n0, hz, ?_⟩
  rintro Hb v sb ⟨u, uvs, rfl, nu, hu, hru⟩
  have hFb : Hb F = some (.lst []) := sb _ _ upd_same
  have neF : u ≠ F := fun z => by
    rw [z, upd_same] at nu
    cases nu
  have ul := unlike_length ss
  have unn : Len n (unlike ss) := fun x m => hn x (unlike_mem.mp m)
  have plu := paired_length hru
  refine ⟨u, uvs, rfl, .inl ⟨SqL.of hu, for_it (walk_rev (K := K) (a := u) (xs := uvs)) (fun i σ H' => ∃ acc vs' v3, σ = [some (.ref l), some (.ref F), v3, none] ∧ Sb F Hb H' ∧ H' F = some (.lst vs') ∧ Rws H' vs' acc ∧ acc = ((unlike ss).reverse.take i).foldl greatStep [] ∧ Len n acc ∧ acc.length ≤ i)
    ⟨[], [], none, rfl, Sb.refl F Hb, hFb, .nil, rfl, fun _ m => absurd m (by simp), by simp⟩ (fun i σ H' _ ⟨_, _, _, _, s2, _⟩ => SqL.of (s2 _ _ neF hu)) ?_ ?_⟩⟩
  · rintro i v σ H1 H' hi ⟨acc, vs', v3, rfl, s2, hF', hr', hk, ln, la⟩ ⟨rfl, hv⟩
    obtain ⟨r, hri, tr⟩ := hru.nth hv
    have rn := unn.nth hri
    have tr2 := tr.mono (s2.tups (notT hFb fun _ z => by cases z))
    have hri2 : (unlike ss).reverse[i]? = some r := by
      rw [List.getElem?_reverse (by omega), ← hri]
      congr 1
      omega
    have st : ((unlike ss).reverse.take (i + 1)).foldl greatStep [] = greatStep acc r := by
      rw [take_snoc hri2, List.foldl_append, ← hk]
      rfl
    dsimp only [tIfS, gName, tTest, tOp, tCB, tCons, tNil, tC]
    refine lcR (K := K) (i := 3) (rs := acc) (fun one => within r one) id (by omega) (fun _ => rfl) rfl (fun R z => ⟨_, rfl, z _ F vs' (Same.refl _) hF' hr'⟩) ?_ ?_ ?_
    · intro v2 r2 H2 R hm s3 t2 z
      have r2n := ln r2 hm
      refine ⟨_, rfl, _, rfl, v, v2, r, r2, rfl, tr2.same s3, t2, by omega, fun z => ?_, by omega, fun H3 b s4 eb => ?_⟩
      · rw [z] at rn
        simp at rn
        omega
      · subst eb
        exact ⟨_, rfl, z H3 s4⟩
    · intro v2 r2 H2 R hm hp s3 t2 z
      exact ⟨_, rfl, z H2 v2 (Same.refl _) t2⟩
    · intro D H2 vs2 s3 hD hd hr2
      rw [List.map_id] at hr2
      have pl2 := paired_length hr2
      refine ⟨D, vs2, rfl, .inl (SqL.of hd), rfl, _, rfl, ?_⟩
      have hF2 := s3 _ _ hF'
      have c0 : decide (V.int (vs2.length : Int) = V.int 0) = (acc.filter fun one => within r one).isEmpty := by
        rw [Bool.eq_iff_iff, decide_eq_true_iff, List.isEmpty_iff, ← List.length_eq_zero_iff, ← pl2]
        constructor
        · intro z
          injection z with z
          omega
        · intro z
          rw [z]
          rfl
      rw [c0]
      refine ite2 (fun c => ?_) (fun c => ?_)
      · refine ⟨_, rfl, .inl ⟨rfl, _, SqL.of hF2⟩, _, rfl, F, vs', v, rfl, rfl, hF2, ?_, ?_⟩
        · rw [paired_length hr']
          exact size_small (by omega)
        · refine ⟨acc ++ [r], _, _, rfl, (s2.trans (.of s3)).upd, upd_same, Paired.app ((hr'.same s3).upd_lst hF2) (.cons ((tr2.same s3).upd_lst hF2) .nil), ?_, ?_, ?_⟩
          · rw [st]
            unfold greatStep
            rw [if_pos c]
          · intro x m
            rcases List.mem_append.mp m with q | q
            · exact ln x q
            · simp at q
              rw [q]
              exact rn
          · rw [List.length_append]
            simp
            omega
      · refine ⟨acc, vs', _, rfl, s2.trans (.of s3), hF2, hr'.same s3, ?_, ln, by omega⟩
        rw [st]
        unfold greatStep
        rw [if_neg c]
  · rintro σ H' ⟨acc, vs', v3, rfl, s2, hF', hr', hk, ln, la⟩
    refine ⟨_, rfl, k H' _ (((Sb.of (s1.trans sb)).trans s2).same hF) ⟨F, vs', rfl, hF, hF', ?_⟩⟩
    have e : acc = greatest ss := by
      rw [hk, plu, List.take_of_length_le (by simp)]
      rfl
    rw [← e]
    exact hr'
theorem scPairsOf : FnScope ["first", "second", "one", "other"] ["first", "second"] (defScope sPairsOf) := ⟨rfl, rfl, rfl, by decide +kernel, rfl, by decide +kernel, by decide +kernel⟩
theorem ok_pairsOf (T : Wd K mg) : FnOk P w K mg base CX0 2 T.pairsOf.f T.pairsOf.fd ["first", "second"] (spPairs n) := by
  have GGreaterOf := ok_greaterOf (P := P) (w := w) (base := base) T
  refine T.pairsOf.F.ok scPairsOf (fun vs H Q E h => ?_) (fun cdv A outer s H vs Q E hr h => ⟨_, (pss_one (ps_ret (pe_lc2 (g := (gName 2)) (g1 := (gName 3)) (wi1 := iList K (tVar 1)) (own := [("one", 2), ("other", 3)]) (vs1 := [3]) rfl scPairsOf.nd  (pi_list (pv 0)) (blkOk_by (N := ["first", "second", "one", "other"]) (sc := defScope sPairsOf) (by decide +kernel)) (by decide) (fun _ _ _ _ _ => (pg_name (i := 2) scPairsOf.nd rfl (.inl rfl))) (fun _ _ _ _ _ => pts_nil) (fun _ _ _ _ _ => (pi_list (pv 1))) (fun _ _ _ _ _ => (pg_name (i := 3) scPairsOf.nd rfl (.inl rfl))) (fun _ _ _ _ _ => pts_nil) (fun _ _ _ _ _ => (pe_call GGreaterOf (hr.mono (by first | decide | omega)) rfl T.greaterOf.g T.greaterOf.F.kp T.greaterOf.b .nil pass0 (pa_cons (pv 2) (pa_cons (pv 3) pa_nil))))))), ?_⟩)
  · obtain ⟨v1, v2, a, b, rfl, _⟩ := h
    rfl
  obtain ⟨_, _, as, bs, rfl, ⟨l, vs, rfl, hl, hr1⟩, ⟨l2, vs2, rfl, hl2, hr2⟩, na, nb, n1, la, lb, k⟩ := h
  have p1 := paired_length hr1
  have p2 := paired_length hr2
  refine ⟨_, rfl, l, rfl, ⟨_, SqL.of hl⟩, fun D hD => ?_⟩
  refine lc_it' (walk_list (K := K) (a := l) (xs := vs)) (fun i H' => Same H H' ∧ ∃ acc, H' D = some (.lst acc) ∧ Rws H' acc (pairs (as.take i) bs))
    ⟨same_upd (Same.refl H) hD, [], upd_same, .nil⟩ (fun i H' _ x => SqL.of (x.1 _ _ hl)) ?_ ?_
  · rintro i v H1 H' hi ⟨s2, acc, hd, ha⟩ ⟨rfl, hx⟩
    obtain ⟨r, hri, tr⟩ := hr1.nth hx
    have rn := na.nth hri
    refine ⟨rfl, ?_⟩
    dsimp only [tYes]
    refine iteT ?_
    refine ⟨_, rfl, l2, rfl, ⟨_, SqL.of (s2 _ _ hl2)⟩, ?_⟩
    refine lc_in (walk_list (K := K) (a := l2) (xs := vs2)) (fun j H' => Same H H' ∧ ∃ acc, H' D = some (.lst acc) ∧ Rws H' acc (pairs (as.take i) bs ++ (bs.take j).map fun y => zmax r y))
      ⟨s2, acc, hd, by simpa using ha⟩ (fun j H' _ x => SqL.of (x.1 _ _ hl2)) ?_ ?_
    · rintro j v2 H2 H' hj ⟨s3, acc2, hd2, ha2⟩ ⟨rfl, hx2⟩
      obtain ⟨r2, hri2, tr2⟩ := hr2.nth hx2
      have rn2 := nb.nth hri2
      refine ⟨rfl, ?_⟩
      dsimp only [tYes]
      refine iteT ?_
      refine ⟨_, rfl, _, rfl, v, v2, r, r2, rfl, tr.same s3, tr2.same s3, by omega, fun H4 v4 s4 t4 => ?_⟩
      have hd4 := s4 _ _ hd2
      refine ⟨acc2, hd4, ?_, same_upd (s3.trans s4) hD, _, upd_same, ?_⟩
      · rw [paired_length ha2, List.length_append, List.length_map]
        refine size_small ?_
        have := pairs_length (as.take i) bs
        have := List.length_take_le' i as
        have := List.length_take_le' j bs
        have : (as.take i).length * bs.length ≤ 300 * 300 := Nat.mul_le_mul (by omega) lb
        omega
      · rw [take_snoc hri2, List.map_append, ← List.append_assoc]
        exact Paired.app ((ha2.same s4).upd_lst hd4) (.cons (t4.upd_lst hd4) .nil)
    · rintro H2 ⟨s3, acc2, hd2, ha2⟩
      refine ⟨s3, acc2, hd2, ?_⟩
      rw [p2, List.take_length] at ha2
      have e : pairs (as.take (i + 1)) bs = pairs (as.take i) bs ++ bs.map fun y => zmax r y := by
        unfold pairs
        rw [take_snoc hri, List.flatMap_append]
        simp
      rw [e]
      exact ha2
  · rintro H1 ⟨s2, acc, hd, ha⟩
    rw [p1, List.take_length] at ha
    exact k H1 _ s2 ⟨D, acc, rfl, hD, hd, ha⟩
theorem scRowsOf : FnScope ["units", "stairs", "stair"] ["units", "stairs"] (defScope sRowsOf) := ⟨rfl, rfl, rfl, by decide +kernel, rfl, by decide +kernel, by decide +kernel⟩
theorem ok_rowsOf (T : Wd K mg) : FnOk P w K mg base CX0 2 T.rowsOf.f T.rowsOf.fd ["units", "stairs"] spRows := by
  have GRowFrom := ok_rowFrom (P := P) (w := w) (base := base) T
  refine T.rowsOf.F.ok scRowsOf (fun vs H Q E h => ?_) (fun cdv A outer s H vs Q E hr h => ⟨_, (pss_one (ps_ret (pe_callTy call_tuple_of (by rfl) T.nTuple (by decide +kernel) (pa_cons (pe_callB (cr_sortRows rfl (hu9_of hr)) (by rfl) T.nSorted (by decide +kernel) (pa_cons (pe_lc (g := (gName 2)) (own := [("stair", 2)]) rfl scRowsOf.nd  (pi_list (pv 1)) (blkOk_by (N := ["units", "stairs", "stair"]) (sc := defScope sRowsOf) (by decide +kernel)) (fun _ _ _ _ _ => (pg_name (i := 2) scRowsOf.nd rfl (.inl rfl))) (fun _ _ _ _ _ => pts_nil) (fun _ _ _ _ _ => (pe_call GRowFrom (hr.mono (by first | decide | omega)) rfl T.rowFrom.g T.rowFrom.F.kp T.rowFrom.b .nil pass0 (pa_cons (pv 0) (pa_cons (pv 2) pa_nil))))) pa_nil)) pa_nil)))), ?_⟩)
  · obtain ⟨v1, v2, a, b, rfl, _⟩ := h
    rfl
  obtain ⟨v1, _, us, ss, rfl, hu, ⟨l, vs, rfl, hl, hw⟩, uo, ln, lz, k⟩ := h
  dsimp only [tRet, tCB, tCons, tNil]
  refine lcR (K := K) (i := 2) (rs := ss) (fun _ => true) (row us) (by omega) (fun _ => rfl) rfl (fun R z => ⟨_, rfl, z H l vs (Same.refl _) hl hw⟩) (fun v r H' R _ _ _ z => z H' (Same.refl _)) ?_ ?_
  · intro v r H' R hm _ e t z
    exact ⟨_, rfl, _, rfl, v1, v, us, r, rfl, hu.same e, t, uo, ln r hm, fun H3 v' s3 t3 => z H3 v' s3 t3⟩
  · intro D H' vs' e hD hd hr'
    rw [filter_true] at hr'
    refine ⟨D, vs', ss.map (row us), rfl, .inl (SqL.of hd), hr', fun r m z => ?_, fun p ys hp hy => ?_⟩
    · obtain ⟨q, hq, rfl⟩ := List.mem_map.mp m
      have := row_length (ln q hq)
      rw [z] at this
      simp at this
    · refine ⟨p, ys, rfl, .inl ⟨SqL.of upd_same, fun q hq => ?_⟩⟩
      have s2 : Same H (upd H' p (.lst ys)) := same_upd e (e.free hp)
      exact k _ _ (same_upd s2 (s2.free hq)) ⟨q, ys, rfl, s2.free hq, upd_same, (hy.upd (notN hp)).upd (notN hq)⟩
end
end K40
end
section
set_option Elab.async false
set_option linter.all false
set_option autoImplicit false
set_option maxRecDepth 100000
/-! The mirror: plans. -/
namespace K40
open PySem PySem.Spec PyProof.Rows L2
inductive Plan where
  | fin
  | ask (r : List Int) (p : Plan)
  | bring (r : List Int) (p : Plan)
  | either (a b : Plan)
  | ours (a b : Plan)
namespace Plan
def depth : Plan → Nat
  | fin => 1
  | ask _ p => p.depth + 1
  | bring _ p => p.depth + 1
  | either a b => max a.depth b.depth + 1
  | ours a b => max a.depth b.depth + 1
def parts : Plan → Nat
  | fin => 1
  | ask _ p => p.parts + 1
  | bring _ p => p.parts + 1
  | either a b => a.parts + b.parts + 1
  | ours a b => a.parts + b.parts + 1
/-- its rows: of n places, in 0 .. m -/
def Ok (n : Nat) (m : Int) : Plan → Prop
  | fin => True
  | ask r p => (r.length = n ∧ ∀ x ∈ r, 0 ≤ x ∧ x ≤ m) ∧ p.Ok n m
  | bring r p => (r.length = n ∧ ∀ x ∈ r, 0 ≤ x ∧ x ≤ m) ∧ p.Ok n m
  | either a b => a.Ok n m ∧ b.Ok n m
  | ours a b => a.Ok n m ∧ b.Ok n m
/-- the value v stands for the plan -/
def At (H : Hp) : Plan → V → Prop
  | fin, v => ∃ a, v = .ref a ∧ H a = some (.tup [.str "end"])
  | ask r p, v => ∃ a x y, v = .ref a ∧ H a = some (.tup [.str "ask", x, y]) ∧ TI H x r ∧ p.At H y
  | bring r p, v => ∃ a x y, v = .ref a ∧ H a = some (.tup [.str "bring", x, y]) ∧ TI H x r ∧ p.At H y
  | either p q, v => ∃ a x y, v = .ref a ∧ H a = some (.tup [.str "either", x, y]) ∧ p.At H x ∧ q.At H y
  | ours p q, v => ∃ a x y, v = .ref a ∧ H a = some (.tup [.str "ours", x, y]) ∧ p.At H x ∧ q.At H y
theorem At.mono {H H' : Hp} (e : TupsStay H H') : ∀ {p : Plan} {v : V}, p.At H v → p.At H' v
  | fin, _, ⟨a, h1, h2⟩ => ⟨a, h1, e _ _ h2⟩
  | ask _ p, _, ⟨a, x, y, h1, h2, h3, h4⟩ => ⟨a, x, y, h1, e _ _ h2, h3.mono e, At.mono e h4⟩
  | bring _ p, _, ⟨a, x, y, h1, h2, h3, h4⟩ => ⟨a, x, y, h1, e _ _ h2, h3.mono e, At.mono e h4⟩
  | either p q, _, ⟨a, x, y, h1, h2, h3, h4⟩ => ⟨a, x, y, h1, e _ _ h2, At.mono e h3, At.mono e h4⟩
  | ours p q, _, ⟨a, x, y, h1, h2, h3, h4⟩ => ⟨a, x, y, h1, e _ _ h2, At.mono e h3, At.mono e h4⟩
theorem At.same {H H' : Hp} {p : Plan} {v : V} (h : p.At H v) (e : Same H H') : p.At H' v := h.mono (.of e)
theorem depth_pos : ∀ p : Plan, 1 ≤ p.depth
  | fin => Nat.le_refl _
  | ask _ p => Nat.succ_le_succ (Nat.zero_le _)
  | bring _ p => Nat.succ_le_succ (Nat.zero_le _)
  | either a b => Nat.succ_le_succ (Nat.zero_le _)
  | ours a b => Nat.succ_le_succ (Nat.zero_le _)
end Plan
/-- the least stairs that live -/
def least (us : List Int) : Plan → Option (List Row)
  | .fin => some [List.replicate (us.length + 1) 0]
  | .ask r p => (least us p).bind fun inner => kept (inner.map fun o => zadd (stair us r) o)
  | .bring r p => (least us p).bind fun inner => kept (inner.map fun o => up us (zsub o (stair us r)))
  | .either a b => (least us a).bind fun f => (least us b).bind fun s => kept (pairs f s)
  | .ours a b => (least us a).bind fun f => (least us b).bind fun s => kept (f ++ s)
def livesS (us : List Int) : Plan → Row → Bool
  | .fin, _ => true
  | .ask r p, s => match down us (zsub s (stair us r)) with
    | none => false
    | some q => livesS us p q
  | .bring r p, s => livesS us p (zadd s (stair us r))
  | .either a b, s => livesS us a s && livesS us b s
  | .ours a b, s => livesS us a s || livesS us b s
theorem zadd_length {a b : Row} (h : a.length = b.length) : (zadd a b).length = a.length := by
  unfold zadd
  rw [List.length_zipWith]
  omega
theorem zsub_length {a b : Row} (h : a.length = b.length) : (zsub a b).length = a.length := by
  unfold zsub
  rw [List.length_zipWith]
  omega
theorem zmax_length {a b : Row} (h : a.length = b.length) : (zmax a b).length = a.length := by
  unfold zmax
  rw [List.length_zipWith]
  omega
theorem least_len (us : List Int) : ∀ (p : Plan) (m : Int) (out : List Row), p.Ok (us.length + 1) m → least us p = some out → (∀ s ∈ out, s.length = us.length + 1) ∧ out.length ≤ 40 := by
  intro p m
  induction p with
  | fin =>
    intro out _ e
    cases e
    exact ⟨fun s hs => by simp at hs; rw [hs]; simp, by simp⟩
  | ask r p ih =>
    intro out ok e
    obtain ⟨inner, h1, h2⟩ := Option.bind_eq_some_iff.mp e
    obtain ⟨l1, _⟩ := ih inner ok.2 h1
    refine ⟨fun s hs => ?_, kept_length h2⟩
    obtain ⟨o, ho, rfl⟩ := List.mem_map.mp (kept_mem h2 hs)
    have hr := stair_length (us := us) ok.1.1
    rw [zadd_length (by rw [hr, l1 o ho]), hr]
  | bring r p ih =>
    intro out ok e
    obtain ⟨inner, h1, h2⟩ := Option.bind_eq_some_iff.mp e
    obtain ⟨l1, _⟩ := ih inner ok.2 h1
    refine ⟨fun s hs => ?_, kept_length h2⟩
    obtain ⟨o, ho, rfl⟩ := List.mem_map.mp (kept_mem h2 hs)
    have hr := stair_length (us := us) ok.1.1
    exact up_length (by rw [zsub_length (by rw [hr, l1 o ho]), l1 o ho])
  | either a b iha ihb =>
    intro out ok e
    obtain ⟨f, h1, e⟩ := Option.bind_eq_some_iff.mp e
    obtain ⟨g, h2, h3⟩ := Option.bind_eq_some_iff.mp e
    obtain ⟨l1, _⟩ := iha f ok.1 h1
    obtain ⟨l2, _⟩ := ihb g ok.2 h2
    refine ⟨fun s hs => ?_, kept_length h3⟩
    have m := kept_mem h3 hs
    unfold pairs at m
    obtain ⟨x, hx, m⟩ := List.mem_flatMap.mp m
    obtain ⟨y, hy, rfl⟩ := List.mem_map.mp m
    rw [zmax_length (by rw [l1 x hx, l2 y hy]), l1 x hx]
  | ours a b iha ihb =>
    intro out ok e
    obtain ⟨f, h1, e⟩ := Option.bind_eq_some_iff.mp e
    obtain ⟨g, h2, h3⟩ := Option.bind_eq_some_iff.mp e
    obtain ⟨l1, _⟩ := iha f ok.1 h1
    obtain ⟨l2, _⟩ := ihb g ok.2 h2
    refine ⟨fun s hs => ?_, kept_length h3⟩
    rcases List.mem_append.mp (kept_mem h3 hs) with m | m
    · exact l1 s m
    · exact l2 s m
end K40
end
section
set_option Elab.async false
set_option linter.all false
set_option autoImplicit false
set_option maxRecDepth 100000
set_option maxHeartbeats 4000000
/-! A tuple once or more. -/
namespace K40
open PySem PySem.Spec PyProof.Rows L2
theorem tuple_once (l : Addr) (its : Array Value) (n : Nat) (dd : Option Addr) (sl : Array (Option Value)) (u : Tok) :
    Meets (Builtin.«tuple.__mul__» ⟨[.ref l, .int 1 u], []⟩) (fun _ R s => s.heap.get? l = some { cls := .type "tuple", dict := dd, data := .seq its n, slots := sl } ∧ R (.ok (.ret (Value.ref l))) s) :=
  .of_wp fun prog w A R s0 hh => by
    obtain ⟨hp, gn, dr, tok, osx⟩ := s0
    obtain ⟨hl, fin⟩ := hh
    have f1 := AutoSeq1.idx_int
    have c1 : (its.isEmpty || (1 : Int) == 1) = true := by
      rw [show ((1 : Int) == 1) = true from rfl, Bool.or_true]
    wp_walk using wpAny_loadPart' hl
    repeat (first
      | (refine wpAny_ite_false (by decide) ?_; wp_walk using wpAny_loadPart' hl)
      | (refine wpAny_ite_true (decide_eq_true c1) ?_; wp_walk using wpAny_loadPart' hl))
    exact ⟨_, rfl, fin⟩
/-- a tuple k times: once it is the tuple itself -/
def rRepA (K : PySem.W.Frag) : R2 := fun x y H Q => ∃ l k xs, x = .ref l ∧ y = .int k ∧ H l = some (.tup xs) ∧ xs ≠ [] ∧ 1 ≤ k ∧ k ≤ 1000 ∧ xs.length ≤ 1000 ∧ ∀ H' p, Same H H' → H' p = some (.tup (List.replicate k.toNat xs).flatten) → Q (.ref p) H'
theorem op_repA {X : Cx} : OpR X (binaryOp .Mult) (rRepA X.K) := by
  intro pins s σ H x y v u Q I rx ry h
  obtain ⟨l, k, xs, rfl, rfl, hl, hne, k1, k2, hz, q⟩ := h
  by_cases one : k = 1
  · subst one
    have e1 : (List.replicate (1 : Int).toNat xs).flatten = xs := by simp
    rw [e1] at q
    cases rx
    obtain ⟨t, rfl⟩ := ry
    obtain ⟨its, r, ⟨⟨cls, dd, data, sl⟩, ho, hc, n, hd⟩, hs⟩ := I.tuple (SqT.of (K := X.K) hl)
    simp only at hc hd
    subst hc hd
    refine wpAny_binaryOp_repeat_ref (T := "tuple") (U := "int") (by decide) ⟨_, ho, rfl⟩ (fun s' => typeIs_int s' 1 t) noFill_tuple_mul F.fills_int_mul F.slot_int_rmul repeat_tuple F.slot_int_index.lookup
      (call_meets F.slot_int_rmul (typeIs_int s 1 t) F.entry_int_rmul (F.args_int_rmul_2 _ _) (int_rmul_tuple 1 t l its.toArray n dd sl)
        ⟨ho, rfl, ⟨_, ho, rfl⟩, call_meets F.slot_tuple_mul ⟨_, ho, rfl⟩ F.entry_tuple_mul (F.args_tuple_mul_2 _ _) (tuple_once l its.toArray n dd sl t) ⟨ho, ?_⟩⟩)
    exact ⟨.ref l, H, I, rfl, q H l (Same.refl H) hl⟩
  · exact op_repT pins s σ H (.ref l) (.int k) v u Q I rx ry ⟨l, k, xs, rfl, rfl, SqT.of hl, hne, by omega, k2, hz, fun p hp => q _ p (same_new hp _) upd_same⟩
end K40
end
section
set_option Elab.async false
set_option linter.all false
set_option autoImplicit false
set_option maxRecDepth 100000
set_option maxHeartbeats 4000000
/-! least_stairs, lives_from. -/
namespace K40
open PySem PySem.Spec PyProof.Rows L2
theorem iteEq {x : Str} {A B : Prop} (h : A) : if decide (V.str x = V.str x) = true then A else B := by
  rw [decide_eq_true rfl]
  exact iteT h
theorem iteNe {x y : Str} {A B : Prop} (n : x ≠ y) (h : B) : if decide (V.str x = V.str y) = true then A else B := by
  rw [decide_eq_false (fun z => n (by injection z))]
  exact iteF h
theorem TooG.later {C : Addr} {H H1 : Hp} {E : XK} (k : TooG C H E) (e : Same H H1) : TooG C H1 E := fun H' d s n => k H' d (e.trans s) (e.free n)
theorem NewL.later {H H1 H2 : Hp} {v : V} {rs : List Row} (h : NewL H1 H2 v rs) (e : Same H H1) : NewL H H2 v rs := by
  obtain ⟨a, vs, rfl, h1, h2, h3⟩ := h
  exact ⟨a, vs, rfl, e.free h1, h2, h3⟩
theorem LR.later {H H' : Hp} {v : V} {rs : List Row} (h : LR H v rs) (e : Same H H') : LR H' v rs := h.same e
def spLeast (C : Addr) (d : Nat) : Sp := fun vs H Q E => ∃ v1 v2 us p m, vs = [v1, v2] ∧ TI H v1 us ∧ Plan.At H p v2 ∧ UOk us ∧ p.Ok (us.length + 1) m ∧ p.depth ≤ d ∧
  (∀ r, least us p = some r → Ret H Q fun H' v => NewL H H' v r) ∧ (least us p = none → TooG C H E)
theorem fnOk_none {P : Program} {w : World} {K : PySem.W.Frag} {mg : Str → Option Value} {base : Heap} {CX : CXT} {k : Nat} {f : Addr} {fd : FuncData} {ps : List Str} {sp : Sp} (h : ∀ vs H Q E, ¬ sp vs H Q E) : FnOk P w K mg base CX k f fd ps sp :=
  ⟨fun vs H Q E z => (h vs H Q E z).elim, fun A outer s H args us vs Q E _ _ _ _ z => (h vs H Q E z).elim⟩
section
variable {P : Program} {w : World} {K : PySem.W.Frag} {mg : Str → Option Value} {base : Heap}
theorem scLeastStairs : FnScope ["units", "plan", "word", "stair", "inner", "first", "second", "other"] ["units", "plan"] (defScope sLeastStairs) := ⟨rfl, rfl, rfl, by decide +kernel, rfl, by decide +kernel, by decide +kernel⟩
theorem ok_leastStairs (T : We K mg) : ∀ d, FnOk P w K mg base (L2.CX P w) (5 + d) T.leastStairs.f T.leastStairs.fd ["units", "plan"] (spLeast T.tooGreat.C d)
  | 0 => fnOk_none fun vs H Q E ⟨_, _, _, p, _, _, _, _, _, _, hd, _⟩ => by
    have := p.depth_pos
    omega
  | d + 1 => by
    have GLeastStairs := ok_leastStairs T d
    have GStairFrom := ok_stairFrom (P := P) (w := w) (base := base) T.toWd
    have GAdded := ok_added (P := P) (w := w) (base := base) T.toWd
    have GLess := ok_less (P := P) (w := w) (base := base) T.toWd
    have GUpStair := ok_upStair (P := P) (w := w) (base := base) T.toWd
    have GPairsOf := fun n => ok_pairsOf (P := P) (w := w) (base := base) (n := n) T.toWd
    have GKept := fun n => ok_kept (P := P) (w := w) (base := base) (n := n) T
    refine T.leastStairs.F.okX (k := 5 + d) scLeastStairs (fun vs H Q E h => ?_) (fun cdv A outer s H vs Q E hr h => ?_)
    · obtain ⟨v1, v2, us, p, m, rfl, _⟩ := h
      rfl
    obtain ⟨v1, v2, us, p, m, rfl, hu, hp, uo, ok, hd, kS, kN⟩ := h
    have GKept := GKept (us.length + 1)
    have GPairsOf := GPairsOf (us.length + 1)
    refine ⟨_, (pss_cons (ps_set (i := 2) scLeastStairs.nd rfl (.inl rfl) (pe_ix ix_tup (pv 1) pe_int (fun _ _ => rfl)))
 (pss_cons (ps_if (pt_cmpR op_eq (pv 2) pe_str (nomark _)) (pss_one (ps_ret (pe_lst (pa_cons (pe_op op_repA (pe_tup (pa_cons pe_int pa_nil)) (pe_op op_add (pe_callB call_len_seq (by rfl) T.nLen (by decide +kernel) (pa_cons (pv 0) pa_nil)) pe_int)) pa_nil)))) pss_nil)
 (pss_cons (ps_if (pt_cmpR op_in_seq (pv 2) (pe_tup (pa_cons pe_str (pa_cons pe_str pa_nil))) rfl) (pss_cons (ps_set (i := 3) scLeastStairs.nd rfl (.inr rfl) (pe_call GStairFrom (hr.mono (by first | decide | omega)) rfl T.stairFrom.g T.stairFrom.F.kp T.stairFrom.b .nil pass0 (pa_cons (pv 0) (pa_cons (pe_ix ix_tup (pv 1) pe_int (fun _ _ => rfl)) pa_nil))))
 (pss_cons (ps_set (i := 4) scLeastStairs.nd rfl (.inl rfl) (pe_call GLeastStairs (hr.mono (by first | decide | omega)) rfl T.leastStairs.g T.leastStairs.F.kp T.leastStairs.b .nil (passes_call (takes_of rfl rfl rfl rfl) (fun _ _ _ _ z => z)) (pa_cons (pv 0) (pa_cons (pe_ix ix_tup (pv 1) pe_int (fun _ _ => rfl)) pa_nil))))
 (pss_cons (ps_if (pt_cmpR op_eq (pv 2) pe_str (nomark _)) (pss_one (ps_ret (pe_call GKept (hr.mono (by first | decide | omega)) rfl T.kept.g T.kept.F.kp T.kept.b .nil (passes_call (takes_of rfl rfl rfl rfl) (fun _ _ _ _ z => z)) (pa_cons (pe_lc (g := (gName 7)) (own := [("other", 7)]) rfl scLeastStairs.nd  (pi_list (pv 4)) (blkOk_by (N := ["units", "plan", "word", "stair", "inner", "first", "second", "other"]) (sc := defScope sLeastStairs) (by decide +kernel)) (fun _ _ _ _ _ => (pg_name (i := 7) scLeastStairs.nd rfl (.inl rfl))) (fun _ _ _ _ _ => pts_nil) (fun _ _ _ _ _ => (pe_call GAdded (hr.mono (by first | decide | omega)) rfl T.added.g T.added.F.kp T.added.b .nil pass0 (pa_cons (pv 3) (pa_cons (pv 7) pa_nil))))) pa_nil)))) pss_nil)
 (pss_one (ps_ret (pe_call GKept (hr.mono (by first | decide | omega)) rfl T.kept.g T.kept.F.kp T.kept.b .nil (passes_call (takes_of rfl rfl rfl rfl) (fun _ _ _ _ z => z)) (pa_cons (pe_lc (g := (gName 7)) (own := [("other", 7)]) rfl scLeastStairs.nd  (pi_list (pv 4)) (blkOk_by (N := ["units", "plan", "word", "stair", "inner", "first", "second", "other"]) (sc := defScope sLeastStairs) (by decide +kernel)) (fun _ _ _ _ _ => (pg_name (i := 7) scLeastStairs.nd rfl (.inl rfl))) (fun _ _ _ _ _ => pts_nil) (fun _ _ _ _ _ => (pe_call GUpStair (hr.mono (by first | decide | omega)) rfl T.upStair.g T.upStair.F.kp T.upStair.b .nil pass0 (pa_cons (pv 0) (pa_cons (pe_call GLess (hr.mono (by first | decide | omega)) rfl T.less.g T.less.F.kp T.less.b .nil pass0 (pa_cons (pv 7) (pa_cons (pv 3) pa_nil))) pa_nil))))) pa_nil))))))) pss_nil)
 (pss_cons (ps_set (i := 5) scLeastStairs.nd rfl (.inl rfl) (pe_call GLeastStairs (hr.mono (by first | decide | omega)) rfl T.leastStairs.g T.leastStairs.F.kp T.leastStairs.b .nil (passes_call (takes_of rfl rfl rfl rfl) (fun _ _ _ _ z => z)) (pa_cons (pv 0) (pa_cons (pe_ix ix_tup (pv 1) pe_int (fun _ _ => rfl)) pa_nil))))
 (pss_cons (ps_set (i := 6) scLeastStairs.nd rfl (.inl rfl) (pe_call GLeastStairs (hr.mono (by first | decide | omega)) rfl T.leastStairs.g T.leastStairs.F.kp T.leastStairs.b .nil (passes_call (takes_of rfl rfl rfl rfl) (fun _ _ _ _ z => z)) (pa_cons (pv 0) (pa_cons (pe_ix ix_tup (pv 1) pe_int (fun _ _ => rfl)) pa_nil))))
 (pss_cons (ps_if (pt_cmpR op_eq (pv 2) pe_str (nomark _)) (pss_one (ps_ret (pe_call GKept (hr.mono (by first | decide | omega)) rfl T.kept.g T.kept.F.kp T.kept.b .nil (passes_call (takes_of rfl rfl rfl rfl) (fun _ _ _ _ z => z)) (pa_cons (pe_op op_cat (pv 5) (pv 6)) pa_nil)))) pss_nil)
 (pss_one (ps_ret (pe_call GKept (hr.mono (by first | decide | omega)) rfl T.kept.g T.kept.F.kp T.kept.b .nil (passes_call (takes_of rfl rfl rfl rfl) (fun _ _ _ _ z => z)) (pa_cons (pe_call GPairsOf (hr.mono (by first | decide | omega)) rfl T.pairsOf.g T.pairsOf.F.kp T.pairsOf.b .nil pass0 (pa_cons (pv 5) (pa_cons (pv 6) pa_nil))) pa_nil)))))))))), ?_⟩
    have hl := uo.len
    cases p with
    | fin =>
      obtain ⟨a, rfl, ha⟩ := hp
      refine ⟨_, rfl, a, _, 0, .str "end", rfl, rfl, SqT.of ha, atI_nat (j := 0) rfl, ?_⟩
      refine ⟨_, rfl, rfl, _, rfl, iteEq ?_⟩
      obtain ⟨b, rfl, hb⟩ := hu
      refine ⟨by show 1 ≤ sizeLine; decide, fun t ht => ?_⟩
      have s1 : Same H (upd H t (.tup [.int 0])) := same_upd (Same.refl H) ht
      refine ⟨_, rfl, b, _, rfl, .inr (SqT.of (s1 _ _ hb)), _, 1, rfl, rfl, t, _, _, rfl, rfl, upd_same, by simp, by omega, ?_, by simp, fun H2 q s2 hq => ?_⟩
      · rw [List.length_map]
        omega
      refine ⟨by show 1 ≤ sizeLine; decide, fun l hl2 => ?_⟩
      have s3 : Same H H2 := s1.trans s2
      have s4 : Same H (upd H2 l (.lst [.ref q])) := same_upd s3 (s3.free hl2)
      refine kS _ rfl _ _ s4 ⟨l, _, rfl, s3.free hl2, upd_same, .cons ⟨q, rfl, ?_⟩ .nil⟩
      rw [upd_ne (ne_of_none hq hl2), hq]
      congr 2
      rw [List.length_map, show ((us.length : Int) + 1).toNat = us.length + 1 by omega]
      simp
    | ask r p =>
      obtain ⟨a, x, y, rfl, ha, hx, hy⟩ := hp
      refine ⟨_, rfl, a, _, 0, .str "ask", rfl, rfl, SqT.of ha, atI_nat (j := 0) rfl, ?_⟩
      refine ⟨_, rfl, rfl, _, rfl, iteNe (by decide) ?_⟩
      refine ⟨_, rfl, by show 2 ≤ sizeLine; decide, fun t ht => ⟨t, _, rfl, .inr (SqT.of upd_same), rfl, rfl, _, rfl, iteT ?_⟩⟩
      have s1 : Same H (upd H t (.tup [.str "ask", .str "bring"])) := same_upd (Same.refl H) ht
      refine ⟨_, rfl, _, rfl, a, _, 1, x, rfl, rfl, SqT.of (s1 _ _ ha), atI_nat (j := 1) rfl, ?_⟩
      refine ⟨v1, x, us, r, rfl, hu.same s1, hx.same s1, uo, ok.1.1, fun H2 st s2 hst => ?_⟩
      have s12 : Same H H2 := s1.trans s2
      refine ⟨_, rfl, _, rfl, a, _, 2, y, rfl, rfl, SqT.of (s12 _ _ ha), atI_nat (j := 2) rfl, ?_⟩
      refine ⟨v1, y, us, p, m, rfl, hu.same s12, hy.same s12, uo, ok.2, by have : (Plan.ask r p).depth = p.depth + 1 := rfl; omega, fun inner hin => ?_, fun hin => ?_⟩
      · rintro H3 v s3 ⟨il, ivs, rfl, ni, hil, hir⟩
        have s13 : Same H H3 := s12.trans s3
        obtain ⟨ln, lz⟩ := least_len us p m inner ok.2 hin
        have sl := stair_length (us := us) ok.1.1
        refine ⟨_, rfl, rfl, _, rfl, iteEq ?_⟩
        have hst3 := hst.same s3
        dsimp only [tRet, tCall, tCons, tNil]
        refine lcR (K := K) (i := 7) (rs := inner) (fun _ => true) (fun o => zadd (stair us r) o) (by omega) (fun _ => rfl) rfl (fun R z => ⟨_, rfl, z H3 il ivs (Same.refl _) hil hir⟩) (fun v r H' R _ _ _ z => z H' (Same.refl _)) ?_ ?_
        · intro v2 r2 H' R hm _ e t z
          refine ⟨_, rfl, _, rfl, _, _, stair us r, r2, rfl, hst3.same e, t, by omega, fun H4 v' s4 t4 => z H4 v' s4 t4⟩
        · intro D H' vs' e hD hd hr'
          rw [filter_true] at hr'
          have s14 : Same H H' := s13.trans e
          refine ⟨.ref D, _, rfl, ⟨D, vs', rfl, hd, hr'⟩, ?_, by omega, by omega, by rw [List.length_map]; omega, fun out ho => ?_, fun ho => ?_⟩
          · intro s hs
            obtain ⟨o, ho, rfl⟩ := List.mem_map.mp hs
            rw [zadd_length (by rw [sl, ln o ho]), sl]
          · intro H5 v5 s5 n5
            exact kS out (by show (least us p).bind _ = _; rw [hin]; exact ho) H5 v5 (s14.trans s5) (n5.later s14)
          · exact TooG.later (kN (by show (least us p).bind _ = _; rw [hin]; exact ho)) s14
      · exact TooG.later (kN (by show (least us p).bind _ = none; rw [hin]; rfl)) s12
    | bring r p =>
      obtain ⟨a, x, y, rfl, ha, hx, hy⟩ := hp
      refine ⟨_, rfl, a, _, 0, .str "bring", rfl, rfl, SqT.of ha, atI_nat (j := 0) rfl, ?_⟩
      refine ⟨_, rfl, rfl, _, rfl, iteNe (by decide) ?_⟩
      refine ⟨_, rfl, by show 2 ≤ sizeLine; decide, fun t ht => ⟨t, _, rfl, .inr (SqT.of upd_same), rfl, rfl, _, rfl, iteT ?_⟩⟩
      have s1 : Same H (upd H t (.tup [.str "ask", .str "bring"])) := same_upd (Same.refl H) ht
      refine ⟨_, rfl, _, rfl, a, _, 1, x, rfl, rfl, SqT.of (s1 _ _ ha), atI_nat (j := 1) rfl, ?_⟩
      refine ⟨v1, x, us, r, rfl, hu.same s1, hx.same s1, uo, ok.1.1, fun H2 st s2 hst => ?_⟩
      have s12 : Same H H2 := s1.trans s2
      refine ⟨_, rfl, _, rfl, a, _, 2, y, rfl, rfl, SqT.of (s12 _ _ ha), atI_nat (j := 2) rfl, ?_⟩
      refine ⟨v1, y, us, p, m, rfl, hu.same s12, hy.same s12, uo, ok.2, by have : (Plan.bring r p).depth = p.depth + 1 := rfl; omega, fun inner hin => ?_, fun hin => ?_⟩
      · rintro H3 v s3 ⟨il, ivs, rfl, ni, hil, hir⟩
        have s13 : Same H H3 := s12.trans s3
        obtain ⟨ln, lz⟩ := least_len us p m inner ok.2 hin
        have sl := stair_length (us := us) ok.1.1
        refine ⟨_, rfl, rfl, _, rfl, iteNe (by decide) ?_⟩
        have hst3 := hst.same s3
        dsimp only [tNext, tRet, tCall, tCons, tNil]
        refine lcR (K := K) (i := 7) (rs := inner) (fun _ => true) (fun o => up us (zsub o (stair us r))) (by omega) ?_ rfl ?_ ?_ ?_ ?_
        · exact fun _ => rfl
        · exact fun R z => ⟨_, rfl, z H3 il ivs (Same.refl _) hil hir⟩
        · exact fun v r H' R _ _ _ z => z H' (Same.refl _)
        · intro v2 r2 H' R hm _ e t z
          have l2 := ln r2 hm
          refine ⟨_, rfl, _, rfl, _, rfl, _, _, r2, stair us r, rfl, t, hst3.same e, by omega, fun H4 v4 s4 t4 => ?_⟩
          refine ⟨_, _, us, _, rfl, ((hu.same s13).same e).same s4, t4, uo, ?_, fun H5 v5 s5 t5 => z H5 v5 (s4.trans s5) t5⟩
          show (zsub r2 (stair us r)).length = _
          rw [zsub_length (by rw [sl, l2]), l2]
        · intro D H' vs' e hD hd hr'
          rw [filter_true] at hr'
          have s14 : Same H H' := s13.trans e
          refine ⟨.ref D, _, rfl, ⟨D, vs', rfl, hd, hr'⟩, ?_, by omega, by omega, by rw [List.length_map]; omega, fun out ho => ?_, fun ho => ?_⟩
          · intro s hs
            obtain ⟨o, ho, rfl⟩ := List.mem_map.mp hs
            exact up_length (by rw [zsub_length (by rw [sl, ln o ho]), ln o ho])
          · intro H5 v5 s5 n5
            exact kS out (by show (least us p).bind _ = _; rw [hin]; exact ho) H5 v5 (s14.trans s5) (n5.later s14)
          · exact TooG.later (kN (by show (least us p).bind _ = _; rw [hin]; exact ho)) s14
      · exact TooG.later (kN (by show (least us p).bind _ = none; rw [hin]; rfl)) s12
    | either p q =>
      obtain ⟨a, x, y, rfl, ha, hx, hy⟩ := hp
      have dd : (Plan.either p q).depth = max p.depth q.depth + 1 := rfl
      refine ⟨_, rfl, a, _, 0, .str "either", rfl, rfl, SqT.of ha, atI_nat (j := 0) rfl, ?_⟩
      refine ⟨_, rfl, rfl, _, rfl, iteNe (by decide) ?_⟩
      refine ⟨_, rfl, by show 2 ≤ sizeLine; decide, fun t ht => ⟨t, _, rfl, .inr (SqT.of upd_same), rfl, rfl, _, rfl, iteF ?_⟩⟩
      have s1 : Same H (upd H t (.tup [.str "ask", .str "bring"])) := same_upd (Same.refl H) ht
      refine ⟨_, rfl, _, rfl, a, _, 1, x, rfl, rfl, SqT.of (s1 _ _ ha), atI_nat (j := 1) rfl, ?_⟩
      refine ⟨v1, x, us, p, m, rfl, hu.same s1, hx.same s1, uo, ok.1, by omega, fun f hf => ?_, fun hf => ?_⟩
      · rintro H2 v s2 ⟨fl, fvs, rfl, nf, hfl, hfr⟩
        have s12 : Same H H2 := s1.trans s2
        obtain ⟨ln1, lz1⟩ := least_len us p m f ok.1 hf
        refine ⟨_, rfl, _, rfl, a, _, 2, y, rfl, rfl, SqT.of (s12 _ _ ha), atI_nat (j := 2) rfl, ?_⟩
        refine ⟨v1, y, us, q, m, rfl, hu.same s12, hy.same s12, uo, ok.2, by omega, fun g hg => ?_, fun hg => ?_⟩
        · rintro H3 v s3 ⟨gl, gvs, rfl, ng, hgl, hgr⟩
          have s13 : Same H H3 := s12.trans s3
          obtain ⟨ln2, lz2⟩ := least_len us q m g ok.2 hg
          refine ⟨_, rfl, rfl, _, rfl, iteNe (by decide) ?_⟩
          refine ⟨_, rfl, _, rfl, _, _, f, g, rfl, ⟨fl, fvs, rfl, s3 _ _ hfl, hfr.same s3⟩, ⟨gl, gvs, rfl, hgl, hgr⟩, ln1, ln2, by omega, by omega, by omega, ?_⟩
          intro H4 v4 s4 n4
          have s14 : Same H H4 := s13.trans s4
          refine ⟨v4, _, rfl, n4.lr, ?_, by omega, by omega, ?_, fun out ho => ?_, fun ho => ?_⟩
          · intro z hz
            unfold pairs at hz
            obtain ⟨z1, hz1, hz⟩ := List.mem_flatMap.mp hz
            obtain ⟨z2, hz2, rfl⟩ := List.mem_map.mp hz
            rw [zmax_length (by rw [ln1 z1 hz1, ln2 z2 hz2]), ln1 z1 hz1]
          · rw [pairs_length]
            have := Nat.mul_le_mul lz1 lz2
            omega
          · intro H5 v5 s5 n5
            exact kS out (by show (least us p).bind _ = _; rw [hf]; show (least us q).bind _ = _; rw [hg]; exact ho) H5 v5 (s14.trans s5) (n5.later s14)
          · exact TooG.later (kN (by show (least us p).bind _ = _; rw [hf]; show (least us q).bind _ = _; rw [hg]; exact ho)) s14
        · exact TooG.later (kN (by show (least us p).bind _ = _; rw [hf]; show (least us q).bind _ = _; rw [hg]; rfl)) s12
      · exact TooG.later (kN (by show (least us p).bind _ = _; rw [hf]; rfl)) s1
    | ours p q =>
      obtain ⟨a, x, y, rfl, ha, hx, hy⟩ := hp
      have dd : (Plan.ours p q).depth = max p.depth q.depth + 1 := rfl
      refine ⟨_, rfl, a, _, 0, .str "ours", rfl, rfl, SqT.of ha, atI_nat (j := 0) rfl, ?_⟩
      refine ⟨_, rfl, rfl, _, rfl, iteNe (by decide) ?_⟩
      refine ⟨_, rfl, by show 2 ≤ sizeLine; decide, fun t ht => ⟨t, _, rfl, .inr (SqT.of upd_same), rfl, rfl, _, rfl, iteF ?_⟩⟩
      have s1 : Same H (upd H t (.tup [.str "ask", .str "bring"])) := same_upd (Same.refl H) ht
      refine ⟨_, rfl, _, rfl, a, _, 1, x, rfl, rfl, SqT.of (s1 _ _ ha), atI_nat (j := 1) rfl, ?_⟩
      refine ⟨v1, x, us, p, m, rfl, hu.same s1, hx.same s1, uo, ok.1, by omega, fun f hf => ?_, fun hf => ?_⟩
      · rintro H2 v s2 ⟨fl, fvs, rfl, nf, hfl, hfr⟩
        have s12 : Same H H2 := s1.trans s2
        obtain ⟨ln1, lz1⟩ := least_len us p m f ok.1 hf
        refine ⟨_, rfl, _, rfl, a, _, 2, y, rfl, rfl, SqT.of (s12 _ _ ha), atI_nat (j := 2) rfl, ?_⟩
        refine ⟨v1, y, us, q, m, rfl, hu.same s12, hy.same s12, uo, ok.2, by omega, fun g hg => ?_, fun hg => ?_⟩
        · rintro H3 v s3 ⟨gl, gvs, rfl, ng, hgl, hgr⟩
          have s13 : Same H H3 := s12.trans s3
          obtain ⟨ln2, lz2⟩ := least_len us q m g ok.2 hg
          refine ⟨_, rfl, rfl, _, rfl, iteEq ?_⟩
          have hfl3 := s3 _ _ hfl
          have pl1 := paired_length hfr
          have pl2 := paired_length hgr
          refine ⟨_, rfl, _, rfl, fl, gl, fvs, gvs, rfl, rfl, hfl3, hgl, Nat.le_of_lt (size_small (by omega)), fun D hD => ?_⟩
          have s14 : Same H (upd H3 D (.lst (fvs ++ gvs))) := same_upd s13 (s13.free hD)
          refine ⟨.ref D, _, rfl, ⟨D, _, rfl, upd_same, Paired.app ((hfr.same s3).upd (notN hD)) (hgr.upd (notN hD))⟩, ?_, by omega, by omega, ?_, fun out ho => ?_, fun ho => ?_⟩
          · intro z hz
            rcases List.mem_append.mp hz with hz | hz
            · exact ln1 z hz
            · exact ln2 z hz
          · rw [List.length_append]
            omega
          · intro H5 v5 s5 n5
            exact kS out (by show (least us p).bind _ = _; rw [hf]; show (least us q).bind _ = _; rw [hg]; exact ho) H5 v5 (s14.trans s5) (n5.later s14)
          · exact TooG.later (kN (by show (least us p).bind _ = _; rw [hf]; show (least us q).bind _ = _; rw [hg]; exact ho)) s14
        · exact TooG.later (kN (by show (least us p).bind _ = _; rw [hf]; show (least us q).bind _ = _; rw [hg]; rfl)) s12
      · exact TooG.later (kN (by show (least us p).bind _ = _; rw [hf]; rfl)) s1
end
end K40
end
section
set_option Elab.async false
set_option linter.all false
set_option autoImplicit false
set_option maxRecDepth 100000
set_option maxHeartbeats 4000000
/-! lives_from. -/
namespace K40
open PySem PySem.Spec PyProof.Rows L2
def spLivesFrom (d : Nat) : Sp := fun vs H Q _ => ∃ v1 v2 v3 us p s m, vs = [v1, v2, v3] ∧ TI H v1 us ∧ Plan.At H p v2 ∧ TI H v3 s ∧ UOk us ∧ p.Ok (us.length + 1) m ∧ s.length = us.length + 1 ∧ p.depth ≤ d ∧ Ret H Q fun _ v => v = .bl (livesS us p s)
section
variable {P : Program} {w : World} {K : PySem.W.Frag} {mg : Str → Option Value} {base : Heap}
theorem scLivesFrom : FnScope ["units", "plan", "stair", "word", "rest", "near"] ["units", "plan", "stair"] (defScope sLivesFrom) := ⟨rfl, rfl, rfl, by decide +kernel, rfl, by decide +kernel, by decide +kernel⟩
theorem ok_livesFrom (T : Wd K mg) : ∀ d, FnOk P w K mg base CX0 (1 + d) T.livesFrom.f T.livesFrom.fd ["units", "plan", "stair"] (spLivesFrom d)
  | 0 => fnOk_none fun vs H Q E ⟨_, _, _, _, p, _, _, _, _, _, _, _, _, _, hd, _⟩ => by
    have := p.depth_pos
    omega
  | d + 1 => by
    have GLivesFrom := ok_livesFrom T d
    have GStairFrom := ok_stairFrom (P := P) (w := w) (base := base) T
    have GAdded := ok_added (P := P) (w := w) (base := base) T
    have GLess := ok_less (P := P) (w := w) (base := base) T
    have GDownStair := ok_downStair (P := P) (w := w) (base := base) T
    refine T.livesFrom.F.ok (k := 1 + d) scLivesFrom (fun vs H Q E h => ?_) (fun cdv A outer s H vs Q E hr h => ⟨_, (pss_cons (ps_set (i := 3) scLivesFrom.nd rfl (.inl rfl) (pe_ix ix_tup (pv 1) pe_int (fun _ _ => rfl)))
 (pss_cons (ps_if (pt_cmpR op_eq (pv 3) pe_str (nomark _)) (pss_one (ps_ret pe_bl)) pss_nil)
 (pss_cons (ps_if (pt_cmpR op_eq (pv 3) pe_str (nomark _)) (pss_cons (ps_set (i := 4) scLivesFrom.nd rfl (.inl rfl) (pe_call GDownStair (hr.mono (by first | decide | omega)) rfl T.downStair.g T.downStair.F.kp T.downStair.b .nil pass0 (pa_cons (pv 0) (pa_cons (pe_call GLess (hr.mono (by first | decide | omega)) rfl T.less.g T.less.F.kp T.less.b .nil pass0 (pa_cons (pv 2) (pa_cons (pe_call GStairFrom (hr.mono (by first | decide | omega)) rfl T.stairFrom.g T.stairFrom.F.kp T.stairFrom.b .nil pass0 (pa_cons (pv 0) (pa_cons (pe_ix ix_tup (pv 1) pe_int (fun _ _ => rfl)) pa_nil))) pa_nil))) pa_nil))))
 (pss_one (ps_ret (pe_and (pe_cmpR op_notN (pv 4) pe_non (nomark _)) (pe_one (pe_call GLivesFrom (hr.mono (by first | decide | omega)) rfl T.livesFrom.g T.livesFrom.F.kp T.livesFrom.b .nil pass0 (pa_cons (pv 0) (pa_cons (pe_ix ix_tup (pv 1) pe_int (fun _ _ => rfl)) (pa_cons (pv 4) pa_nil))))))))) pss_nil)
 (pss_cons (ps_if (pt_cmpR op_eq (pv 3) pe_str (nomark _)) (pss_one (ps_ret (pe_call GLivesFrom (hr.mono (by first | decide | omega)) rfl T.livesFrom.g T.livesFrom.F.kp T.livesFrom.b .nil pass0 (pa_cons (pv 0) (pa_cons (pe_ix ix_tup (pv 1) pe_int (fun _ _ => rfl)) (pa_cons (pe_call GAdded (hr.mono (by first | decide | omega)) rfl T.added.g T.added.F.kp T.added.b .nil pass0 (pa_cons (pv 2) (pa_cons (pe_call GStairFrom (hr.mono (by first | decide | omega)) rfl T.stairFrom.g T.stairFrom.F.kp T.stairFrom.b .nil pass0 (pa_cons (pv 0) (pa_cons (pe_ix ix_tup (pv 1) pe_int (fun _ _ => rfl)) pa_nil))) pa_nil))) pa_nil)))))) pss_nil)
 (pss_cons (ps_set (i := 5) scLivesFrom.nd rfl (.inl rfl) (pe_call GLivesFrom (hr.mono (by first | decide | omega)) rfl T.livesFrom.g T.livesFrom.F.kp T.livesFrom.b .nil pass0 (pa_cons (pv 0) (pa_cons (pe_ix ix_tup (pv 1) pe_int (fun _ _ => rfl)) (pa_cons (pv 2) pa_nil)))))
 (pss_cons (ps_if (pt_cmpR op_eq (pv 3) pe_str (nomark _)) (pss_one (ps_ret (pe_or (pv 5) (pe_one (pe_call GLivesFrom (hr.mono (by first | decide | omega)) rfl T.livesFrom.g T.livesFrom.F.kp T.livesFrom.b .nil pass0 (pa_cons (pv 0) (pa_cons (pe_ix ix_tup (pv 1) pe_int (fun _ _ => rfl)) (pa_cons (pv 2) pa_nil)))))))) pss_nil)
 (pss_one (ps_ret (pe_and (pv 5) (pe_one (pe_call GLivesFrom (hr.mono (by first | decide | omega)) rfl T.livesFrom.g T.livesFrom.F.kp T.livesFrom.b .nil pass0 (pa_cons (pv 0) (pa_cons (pe_ix ix_tup (pv 1) pe_int (fun _ _ => rfl)) (pa_cons (pv 2) pa_nil)))))))))))))), ?_⟩)
    · obtain ⟨v1, v2, v3, us, p, st, m, rfl, _⟩ := h
      rfl
    obtain ⟨v1, v2, v3, us, p, st, m, rfl, hu, hp, hs, uo, ok, ls, hd, k⟩ := h
    have hl := uo.len
    cases p with
    | fin =>
      obtain ⟨a, rfl, ha⟩ := hp
      refine ⟨_, rfl, a, _, 0, .str "end", rfl, rfl, SqT.of ha, atI_nat (j := 0) rfl, ?_⟩
      exact ⟨_, rfl, rfl, _, rfl, iteEq (k H _ (Same.refl H) rfl)⟩
    | ask r p =>
      obtain ⟨a, x, y, rfl, ha, hx, hy⟩ := hp
      refine ⟨_, rfl, a, _, 0, .str "ask", rfl, rfl, SqT.of ha, atI_nat (j := 0) rfl, ?_⟩
      refine ⟨_, rfl, rfl, _, rfl, iteNe (by decide) ?_⟩
      refine ⟨_, rfl, rfl, _, rfl, iteEq ?_⟩
      have sl := stair_length (us := us) ok.1.1
      refine ⟨_, rfl, _, rfl, _, rfl, _, rfl, a, _, 1, x, rfl, rfl, SqT.of ha, atI_nat (j := 1) rfl, ?_⟩
      refine ⟨v1, x, us, r, rfl, hu, hx, uo, ok.1.1, fun H2 sv s2 hsv => ?_⟩
      refine ⟨v3, sv, st, stair us r, rfl, hs.same s2, hsv, by omega, fun H3 dv s3 hdv => ?_⟩
      have s13 : Same H H3 := s2.trans s3
      have dl : (zsub st (stair us r)).length = us.length + 1 := by rw [zsub_length (by omega), ls]
      refine ⟨v1, dv, us, _, rfl, hu.same s13, hdv, uo, dl, fun H4 rv s4 hrv => ?_⟩
      have s14 : Same H H4 := s13.trans s4
      have hrv' : OptV H4 rv (down us (zsub st (stair us r))) := hrv
      refine ⟨_, rfl, rfl, _, rfl, ?_⟩
      cases e : down us (zsub st (stair us r)) with
      | none =>
        rw [e] at hrv'
        have hrv2 : rv = .non := hrv'
        subst hrv2
        refine iteF (k H4 _ s14 ?_)
        show V.bl false = V.bl (livesS us (.ask r p) st)
        unfold livesS
        rw [e]
      | some q =>
        rw [e] at hrv'
        have ql := down_length dl e
        obtain ⟨ra, rfl, hra⟩ := hrv'
        refine iteT ?_
        refine ⟨_, rfl, _, rfl, a, _, 2, y, rfl, rfl, SqT.of (s14 _ _ ha), atI_nat (j := 2) rfl, _, rfl, ?_⟩
        refine ⟨v1, y, .ref ra, us, p, q, m, rfl, hu.same s14, hy.same s14, ⟨ra, rfl, hra⟩, uo, ok.2, ql, by have : (Plan.ask r p).depth = p.depth + 1 := rfl; omega, fun H5 v5 s5 e5 => ?_⟩
        refine k H5 v5 (s14.trans s5) ?_
        rw [e5]
        show _ = V.bl (livesS us (.ask r p) st)
        rw [livesS, e]
    | bring r p =>
      obtain ⟨a, x, y, rfl, ha, hx, hy⟩ := hp
      refine ⟨_, rfl, a, _, 0, .str "bring", rfl, rfl, SqT.of ha, atI_nat (j := 0) rfl, ?_⟩
      refine ⟨_, rfl, rfl, _, rfl, iteNe (by decide) ?_⟩
      refine ⟨_, rfl, rfl, _, rfl, iteNe (by decide) ?_⟩
      refine ⟨_, rfl, rfl, _, rfl, iteEq ?_⟩
      have sl := stair_length (us := us) ok.1.1
      refine ⟨_, rfl, _, rfl, a, _, 2, y, rfl, rfl, SqT.of ha, atI_nat (j := 2) rfl, _, rfl, _, rfl, _, rfl, a, _, 1, x, rfl, rfl, SqT.of ha, atI_nat (j := 1) rfl, ?_⟩
      refine ⟨v1, x, us, r, rfl, hu, hx, uo, ok.1.1, fun H2 sv s2 hsv => ?_⟩
      refine ⟨v3, sv, st, stair us r, rfl, hs.same s2, hsv, by omega, fun H3 dv s3 hdv => ?_⟩
      have s13 : Same H H3 := s2.trans s3
      have dl : (zadd st (stair us r)).length = us.length + 1 := by rw [zadd_length (by omega), ls]
      exact ⟨v1, y, dv, us, p, _, m, rfl, hu.same s13, hy.same s13, hdv, uo, ok.2, dl, by have : (Plan.bring r p).depth = p.depth + 1 := rfl; omega, fun H5 v5 s5 e5 => k H5 v5 (s13.trans s5) e5⟩
    | either p q =>
      obtain ⟨a, x, y, rfl, ha, hx, hy⟩ := hp
      have dd : (Plan.either p q).depth = max p.depth q.depth + 1 := rfl
      refine ⟨_, rfl, a, _, 0, .str "either", rfl, rfl, SqT.of ha, atI_nat (j := 0) rfl, ?_⟩
      refine ⟨_, rfl, rfl, _, rfl, iteNe (by decide) ?_⟩
      refine ⟨_, rfl, rfl, _, rfl, iteNe (by decide) ?_⟩
      refine ⟨_, rfl, rfl, _, rfl, iteNe (by decide) ?_⟩
      refine ⟨_, rfl, _, rfl, a, _, 1, x, rfl, rfl, SqT.of ha, atI_nat (j := 1) rfl, _, rfl, ?_⟩
      refine ⟨v1, x, v3, us, p, st, m, rfl, hu, hx, hs, uo, ok.1, ls, by omega, fun H2 v2 s2 e2 => ?_⟩
      subst e2
      refine ⟨_, rfl, rfl, _, rfl, iteNe (by decide) ?_⟩
      refine ⟨_, rfl, _, rfl, ?_⟩
      cases e : livesS us p st with
      | true =>
        refine iteT ?_
        refine ⟨_, rfl, _, rfl, a, _, 2, y, rfl, rfl, SqT.of (s2 _ _ ha), atI_nat (j := 2) rfl, _, rfl, ?_⟩
        refine ⟨v1, y, v3, us, q, st, m, rfl, hu.same s2, hy.same s2, hs.same s2, uo, ok.2, ls, by omega, fun H3 v3' s3 e3 => k H3 v3' (s2.trans s3) ?_⟩
        rw [e3]
        show _ = V.bl (livesS us p st && livesS us q st)
        rw [e, Bool.true_and]
      | false =>
        refine iteF (k H2 _ s2 ?_)
        show _ = V.bl (livesS us p st && livesS us q st)
        rw [e, Bool.false_and]
    | ours p q =>
      obtain ⟨a, x, y, rfl, ha, hx, hy⟩ := hp
      have dd : (Plan.ours p q).depth = max p.depth q.depth + 1 := rfl
      refine ⟨_, rfl, a, _, 0, .str "ours", rfl, rfl, SqT.of ha, atI_nat (j := 0) rfl, ?_⟩
      refine ⟨_, rfl, rfl, _, rfl, iteNe (by decide) ?_⟩
      refine ⟨_, rfl, rfl, _, rfl, iteNe (by decide) ?_⟩
      refine ⟨_, rfl, rfl, _, rfl, iteNe (by decide) ?_⟩
      refine ⟨_, rfl, _, rfl, a, _, 1, x, rfl, rfl, SqT.of ha, atI_nat (j := 1) rfl, _, rfl, ?_⟩
      refine ⟨v1, x, v3, us, p, st, m, rfl, hu, hx, hs, uo, ok.1, ls, by omega, fun H2 v2 s2 e2 => ?_⟩
      subst e2
      refine ⟨_, rfl, rfl, _, rfl, iteEq ?_⟩
      refine ⟨_, rfl, _, rfl, ?_⟩
      cases e : livesS us p st with
      | false =>
        refine iteF ?_
        refine ⟨_, rfl, _, rfl, a, _, 2, y, rfl, rfl, SqT.of (s2 _ _ ha), atI_nat (j := 2) rfl, _, rfl, ?_⟩
        refine ⟨v1, y, v3, us, q, st, m, rfl, hu.same s2, hy.same s2, hs.same s2, uo, ok.2, ls, by omega, fun H3 v3' s3 e3 => k H3 v3' (s2.trans s3) ?_⟩
        rw [e3]
        show _ = V.bl (livesS us p st || livesS us q st)
        rw [e, Bool.false_or]
      | true =>
        refine iteT (k H2 _ s2 ?_)
        show _ = V.bl (livesS us p st || livesS us q st)
        rw [e, Bool.true_or]
end
end K40
end
section
set_option Elab.async false
set_option linter.all false
set_option autoImplicit false
set_option maxRecDepth 100000
set_option maxHeartbeats 4000000
/-! need_units, is_row, need_row, has_form, is_step, places_in. -/
namespace K40
open PySem PySem.Spec PyProof.Rows L2
/-- an error of the class at C is raised: its field f holds x -/
abbrev Rs (C : Addr) (f : Str) (x : V) (H : Hp) (E : XK) : Prop := ∀ H' d, Same H H' → H d = none → H' d = some (.xd [(f, x)]) → E (.ref C) (some d) H'
def spNeedUnits (C : Addr) : Sp := fun vs H Q E => ∃ v us, vs = [v] ∧ TI H v us ∧ ((UOk us ∧ Q v H) ∨ (3 < us.length ∧ us.length ≤ 1000 ∧ Rs C "value" v H E))
/-- its numbers in 0 .. 10 ^ 60 -/
def InM (r : Row) : Prop := ∀ x ∈ r, 0 ≤ x ∧ x ≤ 10 ^ 60
def spIsRow : Sp := fun vs H Q _ => ∃ v1 v2 us r, vs = [v1, v2] ∧ TI H v1 us ∧ TI H v2 r ∧ ((r.length = us.length + 1 ∧ InM r ∧ Q (.bl true) H) ∨ (r.length ≠ us.length + 1 ∧ Q (.bl false) H))
def spNeedRow (CU CR : Addr) : Sp := fun vs H Q E => ∃ v1 v2 us r, vs = [v1, v2] ∧ TI H v1 us ∧ TI H v2 r ∧ UOk us ∧ ((r.length = us.length + 1 ∧ InM r ∧ Q v2 H) ∨ (r.length ≠ us.length + 1 ∧ Rs CR "value" v2 H E))
def spHasForm : Sp := fun vs H Q _ => ∃ (a : Addr) (xs : List V) (k : Int) (z : Str), vs = [.ref a, .int k] ∧ H a = some (.tup xs) ∧ xs[0]? = some (.str z) ∧ Q (.bl (decide ((xs.length : Int) = k))) H
def spIsStep : Sp := fun vs H Q _ => ∃ v1 v2 us, vs = [v1, v2] ∧ TI H v1 us ∧ ((∃ p : Plan, p.At H v2 ∧ p.Ok (us.length + 1) (10 ^ 60) ∧ Ret H Q fun _ v => v = .bl true) ∨ (∃ a x, v2 = .ref a ∧ H a = some (.tup [.str "end", x]) ∧ Ret H Q fun _ v => v = .bl false))
/-- the places of the plans within -/
def places : Plan → List Int
  | .fin => []
  | .ask _ _ => [2]
  | .bring _ _ => [2]
  | .either _ _ => [1, 2]
  | .ours _ _ => [1, 2]
def spPlaces : Sp := fun vs H Q _ => ∃ v p, vs = [v] ∧ Plan.At H p v ∧ Ret H Q fun H' v => TI H' v (places p)
theorem iteBl {b : Bool} {A B : Prop} (h1 : b = true → A) (h2 : b = false → B) : if b = true then A else B := by
  cases b with
  | true => exact iteT (h1 rfl)
  | false => exact iteF (h2 rfl)
section
variable {P : Program} {w : World} {K : PySem.W.Frag} {mg : Str → Option Value} {base : Heap}
theorem scNeedUnits : FnScope ["value", "ratio"] ["value"] (defScope sNeedUnits) := ⟨rfl, rfl, rfl, by decide +kernel, rfl, by decide +kernel, by decide +kernel⟩
theorem ok_needUnits (T : We K mg) : FnOk P w K mg base (L2.CX P w) 3 T.needUnits.f T.needUnits.fd ["value"] (spNeedUnits T.badUnits.C) := by
  have GIsFrom := ok_isFrom (P := P) (w := w) (base := base) T.toWd
  refine T.needUnits.F.okX scNeedUnits (fun vs H Q E h => ?_) (fun cdv A outer s H vs Q E hr h => ⟨_, (pss_cons (ps_if (PW.pt (pw_or (pt_not (pt_val (pe_callB call_isi (by rfl) T.nIsinstance (by decide +kernel) (pa_cons (pv 0) (pa_cons (pe_bltn (v := .ty "tuple") (u := .type "tuple") rfl T.nTuple (by decide +kernel) rfl) pa_nil))))) (pw_or1 (pt_cmpR op_gt (pe_callB call_len_seq (by rfl) T.nLen (by decide +kernel) (pa_cons (pv 0) pa_nil)) (pe_glob (v := .int 3) rfl T.cMostUnits ⟨_, rfl⟩) (nomark _))))) (pss_one (ps_raiseC rfl (takes_of rfl rfl rfl rfl) T.badUnits.ex T.badUnits.no (ok_badUnitsInit T) (k := 1) (hr.mono (by first | decide | omega)) T.badUnits.b rfl T.badUnits.g (pv 0))) pss_nil)
 (pss_cons (ps_for (passes_of rfl) rfl (pi_tup (pv 0)) (pg_name (i := 1) scNeedUnits.nd rfl (.inl rfl)) (pss_one (ps_if (pt_not (pt_val (pe_call GIsFrom (hr.mono (by first | decide | omega)) rfl T.isFrom.g T.isFrom.F.kp T.isFrom.b .nil pass0 (pa_cons (pv 1) (pa_cons pe_int (pa_cons (pe_glob (v := .int 10) rfl T.cMostRatio ⟨_, rfl⟩) pa_nil)))))) (pss_one (ps_raiseC rfl (takes_of rfl rfl rfl rfl) T.badUnits.ex T.badUnits.no (ok_badUnitsInit T) (k := 1) (hr.mono (by first | decide | omega)) T.badUnits.b rfl T.badUnits.g (pv 0))) pss_nil)))
 (pss_one (ps_ret (pv 0))))), ?_⟩)
  · obtain ⟨v1, a, rfl, _⟩ := h
    rfl
  obtain ⟨_, us, rfl, ⟨a, rfl, ha⟩, h⟩ := h
  refine ⟨_, rfl, .ref a, .ty "tuple", _, _, true, rfl, .ty _, .base (.tup ha), kit_ty (by decide +kernel), true, rfl, iteF ?_⟩
  refine ⟨_, rfl, a, _, rfl, .inr (SqT.of ha), _, _, rfl, rfl, _, rfl, ?_⟩
  rw [List.length_map]
  rcases h with ⟨uo, q⟩ | ⟨lo, hi, q⟩
  · have hl := uo.len
    rw [decide_eq_false (by omega : ¬ (3 : Int) < (us.length : Int))]
    refine iteF ?_
    refine ⟨_, rfl, a, rfl, ⟨_, SqT.of ha⟩, for_tup (xs := us.map V.int) (fun i σ H' => ∃ v3, σ = [some (.ref a), v3] ∧ H' = H) ⟨none, rfl, rfl⟩ (fun i σ H' _ ⟨_, _, e⟩ => by rw [e]; exact SqT.of ha) ?_ ?_⟩
    · rintro i v σ H' hv ⟨v3, rfl, rfl⟩
      obtain ⟨u, hu, rfl⟩ := mapI hv
      obtain ⟨u1, u2⟩ := uo.at hu
      refine ⟨_, rfl, u, 2, 10, rfl, ?_⟩
      rw [decide_eq_true (by omega : (2 : Int) ≤ u), decide_eq_true (by omega : u ≤ (10 : Int))]
      exact ⟨_, rfl, iteF ⟨_, rfl, rfl⟩⟩
    · rintro σ H' ⟨v3, rfl, rfl⟩
      exact ⟨_, rfl, q⟩
  · rw [decide_eq_true (by omega : (3 : Int) < (us.length : Int))]
    refine iteT ?_
    exact ⟨_, rfl, fun d hd => q _ d (same_new hd _) hd upd_same⟩
theorem scIsRow : FnScope ["units", "value", "number"] ["units", "value"] (defScope sIsRow) := ⟨rfl, rfl, rfl, by decide +kernel, rfl, by decide +kernel, by decide +kernel⟩
theorem ok_isRow (T : Wd K mg) : FnOk P w K mg base CX0 2 T.isRow.f T.isRow.fd ["units", "value"] spIsRow := by
  have GIsFrom := ok_isFrom (P := P) (w := w) (base := base) T
  refine T.isRow.F.ok scIsRow (fun vs H Q E h => ?_) (fun cdv A outer s H vs Q E hr h => ⟨_, (pss_cons (ps_if (PW.pt (pw_or (pt_not (pt_val (pe_callB call_isi (by rfl) T.nIsinstance (by decide +kernel) (pa_cons (pv 1) (pa_cons (pe_bltn (v := .ty "tuple") (u := .type "tuple") rfl T.nTuple (by decide +kernel) rfl) pa_nil))))) (pw_or1 (pt_cmpR op_ne (pe_callB call_len_seq (by rfl) T.nLen (by decide +kernel) (pa_cons (pv 1) pa_nil)) (pe_op op_add (pe_callB call_len_seq (by rfl) T.nLen (by decide +kernel) (pa_cons (pv 0) pa_nil)) pe_int) (nomark _))))) (pss_one (ps_ret pe_bl)) pss_nil)
 (pss_cons (ps_for PassesOwn.never rfl (pi_tup (pv 1)) (pg_name (i := 2) scIsRow.nd rfl (.inl rfl)) (pss_one (ps_if (pt_not (pt_val (pe_call GIsFrom (hr.mono (by first | decide | omega)) rfl T.isFrom.g T.isFrom.F.kp T.isFrom.b .nil pass0 (pa_cons (pv 2) (pa_cons pe_int (pa_cons (pe_glob (v := .int (10 ^ 60)) rfl T.cMostPieces ⟨_, rfl⟩) pa_nil)))))) (pss_one (ps_ret pe_bl)) pss_nil)))
 (pss_one (ps_ret pe_bl)))), ?_⟩)
  · obtain ⟨v1, v2, a, b, rfl, _⟩ := h
    rfl
  obtain ⟨_, _, us, r, rfl, ⟨b, rfl, hb⟩, ⟨a, rfl, ha⟩, h⟩ := h
  refine ⟨_, rfl, .ref a, .ty "tuple", _, _, true, rfl, .ty _, .base (.tup ha), kit_ty (by decide +kernel), true, rfl, iteF ?_⟩
  refine ⟨_, rfl, a, _, rfl, .inr (SqT.of ha), _, rfl, b, _, rfl, .inr (SqT.of hb), _, _, rfl, rfl, rfl, _, rfl, ?_⟩
  rw [List.length_map, List.length_map]
  rcases h with ⟨lr, im, q⟩ | ⟨nr, q⟩
  · rw [decide_eq_true (by rw [lr]; rfl : V.int (r.length : Int) = V.int ((us.length : Int) + 1))]
    refine iteF ?_
    refine ⟨_, rfl, a, rfl, ⟨_, SqT.of ha⟩, for_tup (xs := r.map V.int) (fun i σ H' => ∃ v3, σ = [some (.ref b), some (.ref a), v3] ∧ H' = H) ⟨none, rfl, rfl⟩ (fun i σ H' _ ⟨_, _, e⟩ => by rw [e]; exact SqT.of ha) ?_ ?_⟩
    · rintro i v σ H' hv ⟨v3, rfl, rfl⟩
      obtain ⟨u, hu, rfl⟩ := mapI hv
      obtain ⟨u1, u2⟩ := im u (List.mem_iff_getElem?.mpr ⟨i, hu⟩)
      refine ⟨_, rfl, u, 0, 10 ^ 60, rfl, ?_⟩
      rw [decide_eq_true u1, decide_eq_true u2]
      exact ⟨_, rfl, iteF ⟨_, rfl, rfl⟩⟩
    · rintro σ H' ⟨v3, rfl, rfl⟩
      exact q
  · rw [decide_eq_false (fun z => nr (by injection z with z; omega) : ¬ V.int (r.length : Int) = V.int ((us.length : Int) + 1))]
    exact iteT q
theorem scNeedRow : FnScope ["units", "value"] ["units", "value"] (defScope sNeedRow) := ⟨rfl, rfl, rfl, by decide +kernel, rfl, by decide +kernel, by decide +kernel⟩
theorem ok_needRow (T : We K mg) : FnOk P w K mg base (L2.CX P w) 4 T.needRow.f T.needRow.fd ["units", "value"] (spNeedRow T.badUnits.C T.badRow.C) := by
  have GNeedUnits := ok_needUnits (P := P) (w := w) (base := base) T
  have GIsRow := ok_isRow (P := P) (w := w) (base := base) T.toWd
  refine T.needRow.F.okX scNeedRow (fun vs H Q E h => ?_) (fun cdv A outer s H vs Q E hr h => ⟨_, (pss_cons (ps_expr (pe_call GNeedUnits (hr.mono (by first | decide | omega)) rfl T.needUnits.g T.needUnits.F.kp T.needUnits.b .nil (passes_call (takes_of rfl rfl rfl rfl) (fun _ _ _ _ z => z)) (pa_cons (pv 0) pa_nil)))
 (pss_cons (ps_if (pt_not (pt_val (pe_call GIsRow (hr.mono (by first | decide | omega)) rfl T.isRow.g T.isRow.F.kp T.isRow.b .nil pass0 (pa_cons (pv 0) (pa_cons (pv 1) pa_nil))))) (pss_one (ps_raiseC rfl (takes_of rfl rfl rfl rfl) T.badRow.ex T.badRow.no (ok_badRowInit T) (k := 1) (hr.mono (by first | decide | omega)) T.badRow.b rfl T.badRow.g (pv 1))) pss_nil)
 (pss_one (ps_ret (pv 1))))), ?_⟩)
  · obtain ⟨v1, v2, a, b, rfl, _⟩ := h
    rfl
  obtain ⟨v1, v2, us, r, rfl, hu, hv, uo, h⟩ := h
  refine ⟨_, rfl, v1, us, rfl, hu, .inl ⟨uo, ?_⟩⟩
  rcases h with ⟨lr, im, q⟩ | ⟨nr, q⟩
  · exact ⟨_, rfl, _, rfl, v1, v2, us, r, rfl, hu, hv, .inl ⟨lr, im, _, rfl, iteF ⟨_, rfl, q⟩⟩⟩
  · exact ⟨_, rfl, _, rfl, v1, v2, us, r, rfl, hu, hv, .inr ⟨nr, _, rfl, iteT ⟨_, rfl, fun d hd => q _ d (same_new hd _) hd upd_same⟩⟩⟩
theorem scHasForm : FnScope ["value", "size"] ["value", "size"] (defScope sHasForm) := ⟨rfl, rfl, rfl, by decide +kernel, rfl, by decide +kernel, by decide +kernel⟩
theorem ok_hasForm (T : Wd K mg) : FnOk P w K mg base CX0 1 T.hasForm.f T.hasForm.fd ["value", "size"] spHasForm := by
  refine T.hasForm.F.ok scHasForm (fun vs H Q E h => ?_) (fun cdv A outer s H vs Q E hr h => ⟨_, (pss_one (ps_ret (pe_and (pe_callB call_isi (by rfl) T.nIsinstance (by decide +kernel) (pa_cons (pv 0) (pa_cons (pe_bltn (v := .ty "tuple") (u := .type "tuple") rfl T.nTuple (by decide +kernel) rfl) pa_nil))) (pe_and (pe_cmpR op_eq (pe_callB call_len_seq (by rfl) T.nLen (by decide +kernel) (pa_cons (pv 0) pa_nil)) (pv 1) (nomark _)) (pe_one (pe_callB call_isi (by rfl) T.nIsinstance (by decide +kernel) (pa_cons (pe_ix ix_tup (pv 0) pe_int (fun _ _ => rfl)) (pa_cons (pe_bltn (v := .ty "str") (u := .type "str") rfl T.nStr (by decide +kernel) rfl) pa_nil)))))))), ?_⟩)
  · obtain ⟨a, xs, k, z, rfl, _⟩ := h
    rfl
  obtain ⟨a, xs, k, z, rfl, ha, h0, q⟩ := h
  refine ⟨_, rfl, .ref a, .ty "tuple", _, _, true, rfl, .ty _, .base (.tup ha), kit_ty (by decide +kernel), true, rfl, iteT ?_⟩
  refine ⟨_, rfl, a, _, rfl, .inr (SqT.of ha), _, rfl, rfl, _, rfl, ?_⟩
  have e : decide (V.int (xs.length : Int) = V.int k) = decide ((xs.length : Int) = k) := by
    by_cases c : (xs.length : Int) = k
    · rw [decide_eq_true c, decide_eq_true (by rw [c])]
    · rw [decide_eq_false c, decide_eq_false fun z => c (by injection z)]
  rw [e]
  refine iteBl (fun c => ?_) (fun c => ?_)
  · rw [c] at q
    exact ⟨_, rfl, a, _, 0, .str z, rfl, rfl, SqT.of ha, atI_nat (j := 0) h0, .str z, .ty "str", _, _, true, rfl, .ty _, .base (.str z), kit_ty (by decide +kernel), q⟩
  · rw [c] at q
    exact q
theorem scIsStep : FnScope ["units", "value"] ["units", "value"] (defScope sIsStep) := ⟨rfl, rfl, rfl, by decide +kernel, rfl, by decide +kernel, by decide +kernel⟩
theorem ok_isStep (T : Wd K mg) : FnOk P w K mg base CX0 3 T.isStep.f T.isStep.fd ["units", "value"] spIsStep := by
  have GHasForm := ok_hasForm (P := P) (w := w) (base := base) T
  have GIsRow := ok_isRow (P := P) (w := w) (base := base) T
  refine T.isStep.F.ok scIsStep (fun vs H Q E h => ?_) (fun cdv A outer s H vs Q E hr h => ⟨_, (pss_cons (ps_if (pt_val (pe_call GHasForm (hr.mono (by first | decide | omega)) rfl T.hasForm.g T.hasForm.F.kp T.hasForm.b .nil pass0 (pa_cons (pv 1) (pa_cons pe_int pa_nil)))) (pss_one (ps_ret (pe_cmpR op_eq (pe_ix ix_tup (pv 1) pe_int (fun _ _ => rfl)) pe_str (nomark _)))) pss_nil)
 (pss_cons (ps_if (pt_not (pt_val (pe_call GHasForm (hr.mono (by first | decide | omega)) rfl T.hasForm.g T.hasForm.F.kp T.hasForm.b .nil pass0 (pa_cons (pv 1) (pa_cons pe_int pa_nil))))) (pss_one (ps_ret pe_bl)) pss_nil)
 (pss_cons (ps_if (pt_cmpR op_in_seq (pe_ix ix_tup (pv 1) pe_int (fun _ _ => rfl)) (pe_tup (pa_cons pe_str (pa_cons pe_str pa_nil))) rfl) (pss_one (ps_ret (pe_call GIsRow (hr.mono (by first | decide | omega)) rfl T.isRow.g T.isRow.F.kp T.isRow.b .nil pass0 (pa_cons (pv 0) (pa_cons (pe_ix ix_tup (pv 1) pe_int (fun _ _ => rfl)) pa_nil))))) pss_nil)
 (pss_one (ps_ret (pe_cmpR op_in_seq (pe_ix ix_tup (pv 1) pe_int (fun _ _ => rfl)) (pe_tup (pa_cons pe_str (pa_cons pe_str pa_nil))) rfl)))))), ?_⟩)
  · obtain ⟨v1, v2, us, rfl, _⟩ := h
    rfl
  obtain ⟨v1, v2, us, rfl, hu, ⟨p, hp, ok, k⟩ | ⟨a, x, rfl, ha, k⟩⟩ := h
  · cases p with
    | fin =>
      obtain ⟨a, rfl, ha⟩ := hp
      refine ⟨_, rfl, a, _, 1, "end", rfl, ha, rfl, _, rfl, iteT ?_⟩
      exact ⟨_, rfl, a, _, 0, .str "end", rfl, rfl, SqT.of ha, atI_nat (j := 0) rfl, rfl, k H _ (Same.refl H) rfl⟩
    | ask r p =>
      obtain ⟨a, x, y, rfl, ha, hx, hy⟩ := hp
      refine ⟨_, rfl, a, _, 1, "ask", rfl, ha, rfl, _, rfl, iteF ?_⟩
      refine ⟨_, rfl, a, _, 3, "ask", rfl, ha, rfl, _, rfl, iteF ?_⟩
      refine ⟨_, rfl, a, _, 0, .str "ask", rfl, rfl, SqT.of ha, atI_nat (j := 0) rfl, by show 2 ≤ sizeLine; decide, fun t ht => ⟨t, _, rfl, .inr (SqT.of upd_same), rfl, rfl, _, rfl, iteT ?_⟩⟩
      have s1 : Same H (upd H t (.tup [.str "ask", .str "bring"])) := same_upd (Same.refl H) ht
      exact ⟨_, rfl, _, rfl, a, _, 1, x, rfl, rfl, SqT.of (s1 _ _ ha), atI_nat (j := 1) rfl, v1, x, us, r, rfl, hu.same s1, hx.same s1, .inl ⟨ok.1.1, ok.1.2, k _ _ s1 rfl⟩⟩
    | bring r p =>
      obtain ⟨a, x, y, rfl, ha, hx, hy⟩ := hp
      refine ⟨_, rfl, a, _, 1, "bring", rfl, ha, rfl, _, rfl, iteF ?_⟩
      refine ⟨_, rfl, a, _, 3, "bring", rfl, ha, rfl, _, rfl, iteF ?_⟩
      refine ⟨_, rfl, a, _, 0, .str "bring", rfl, rfl, SqT.of ha, atI_nat (j := 0) rfl, by show 2 ≤ sizeLine; decide, fun t ht => ⟨t, _, rfl, .inr (SqT.of upd_same), rfl, rfl, _, rfl, iteT ?_⟩⟩
      have s1 : Same H (upd H t (.tup [.str "ask", .str "bring"])) := same_upd (Same.refl H) ht
      exact ⟨_, rfl, _, rfl, a, _, 1, x, rfl, rfl, SqT.of (s1 _ _ ha), atI_nat (j := 1) rfl, v1, x, us, r, rfl, hu.same s1, hx.same s1, .inl ⟨ok.1.1, ok.1.2, k _ _ s1 rfl⟩⟩
    | either p q =>
      obtain ⟨a, x, y, rfl, ha, hx, hy⟩ := hp
      refine ⟨_, rfl, a, _, 1, "either", rfl, ha, rfl, _, rfl, iteF ?_⟩
      refine ⟨_, rfl, a, _, 3, "either", rfl, ha, rfl, _, rfl, iteF ?_⟩
      refine ⟨_, rfl, a, _, 0, .str "either", rfl, rfl, SqT.of ha, atI_nat (j := 0) rfl, by show 2 ≤ sizeLine; decide, fun t ht => ⟨t, _, rfl, .inr (SqT.of upd_same), rfl, rfl, _, rfl, iteF ?_⟩⟩
      have s1 : Same H (upd H t (.tup [.str "ask", .str "bring"])) := same_upd (Same.refl H) ht
      refine ⟨_, rfl, a, _, 0, .str "either", rfl, rfl, SqT.of (s1 _ _ ha), atI_nat (j := 0) rfl, by show 2 ≤ sizeLine; decide, fun t2 ht2 => ⟨t2, _, rfl, .inr (SqT.of upd_same), rfl, rfl, ?_⟩⟩
      exact k _ _ (same_upd s1 (s1.free ht2)) rfl
    | ours p q =>
      obtain ⟨a, x, y, rfl, ha, hx, hy⟩ := hp
      refine ⟨_, rfl, a, _, 1, "ours", rfl, ha, rfl, _, rfl, iteF ?_⟩
      refine ⟨_, rfl, a, _, 3, "ours", rfl, ha, rfl, _, rfl, iteF ?_⟩
      refine ⟨_, rfl, a, _, 0, .str "ours", rfl, rfl, SqT.of ha, atI_nat (j := 0) rfl, by show 2 ≤ sizeLine; decide, fun t ht => ⟨t, _, rfl, .inr (SqT.of upd_same), rfl, rfl, _, rfl, iteF ?_⟩⟩
      have s1 : Same H (upd H t (.tup [.str "ask", .str "bring"])) := same_upd (Same.refl H) ht
      refine ⟨_, rfl, a, _, 0, .str "ours", rfl, rfl, SqT.of (s1 _ _ ha), atI_nat (j := 0) rfl, by show 2 ≤ sizeLine; decide, fun t2 ht2 => ⟨t2, _, rfl, .inr (SqT.of upd_same), rfl, rfl, ?_⟩⟩
      exact k _ _ (same_upd s1 (s1.free ht2)) rfl
  · refine ⟨_, rfl, a, _, 1, "end", rfl, ha, rfl, _, rfl, iteF ?_⟩
    exact ⟨_, rfl, a, _, 3, "end", rfl, ha, rfl, _, rfl, iteT (k H _ (Same.refl H) rfl)⟩
theorem scPlacesIn : FnScope ["plan"] ["plan"] (defScope sPlacesIn) := ⟨rfl, rfl, rfl, by decide +kernel, rfl, by decide +kernel, by decide +kernel⟩
theorem ok_placesIn (T : Wd K mg) : FnOk P w K mg base CX0 1 T.placesIn.f T.placesIn.fd ["plan"] spPlaces := by
  refine T.placesIn.F.ok scPlacesIn (fun vs H Q E h => ?_) (fun cdv A outer s H vs Q E hr h => ⟨_, (pss_cons (ps_if (pt_cmpR op_eq (pe_ix ix_tup (pv 0) pe_int (fun _ _ => rfl)) pe_str (nomark _)) (pss_one (ps_ret (pe_tup pa_nil))) pss_nil)
 (pss_one (ps_ret (pe_ifExp (pt_cmpR op_in_seq (pe_ix ix_tup (pv 0) pe_int (fun _ _ => rfl)) (pe_tup (pa_cons pe_str (pa_cons pe_str pa_nil))) rfl) (pe_tup (pa_cons pe_int (pa_cons pe_int pa_nil))) (pe_tup (pa_cons (pe_op op_sub (pe_callB call_len_seq (by rfl) T.nLen (by decide +kernel) (pa_cons (pv 0) pa_nil)) pe_int) pa_nil)))))), ?_⟩)
  · obtain ⟨v1, p, rfl, _⟩ := h
    rfl
  obtain ⟨v, p, rfl, hp, k⟩ := h
  cases p with
  | fin =>
    obtain ⟨a, rfl, ha⟩ := hp
    refine ⟨_, rfl, a, _, 0, .str "end", rfl, rfl, SqT.of ha, atI_nat (j := 0) rfl, rfl, _, rfl, iteEq ?_⟩
    exact ⟨by show 0 ≤ sizeLine; decide, fun t ht => k _ _ (same_new ht _) ⟨t, rfl, upd_same⟩⟩
  | ask r p =>
    obtain ⟨a, x, y, rfl, ha, hx, hy⟩ := hp
    refine ⟨_, rfl, a, _, 0, .str "ask", rfl, rfl, SqT.of ha, atI_nat (j := 0) rfl, rfl, _, rfl, iteNe (by decide) ?_⟩
    refine ⟨_, rfl, a, _, 0, .str "ask", rfl, rfl, SqT.of ha, atI_nat (j := 0) rfl, by show 2 ≤ sizeLine; decide, fun t ht => ⟨t, _, rfl, .inr (SqT.of upd_same), rfl, rfl, _, rfl, iteF ?_⟩⟩
    have s1 : Same H (upd H t (.tup [.str "either", .str "ours"])) := same_upd (Same.refl H) ht
    exact ⟨_, rfl, a, _, rfl, .inr (SqT.of (s1 _ _ ha)), _, _, rfl, rfl, by show 1 ≤ sizeLine; decide, fun t2 ht2 => k _ _ (same_upd s1 (s1.free ht2)) ⟨t2, rfl, upd_same⟩⟩
  | bring r p =>
    obtain ⟨a, x, y, rfl, ha, hx, hy⟩ := hp
    refine ⟨_, rfl, a, _, 0, .str "bring", rfl, rfl, SqT.of ha, atI_nat (j := 0) rfl, rfl, _, rfl, iteNe (by decide) ?_⟩
    refine ⟨_, rfl, a, _, 0, .str "bring", rfl, rfl, SqT.of ha, atI_nat (j := 0) rfl, by show 2 ≤ sizeLine; decide, fun t ht => ⟨t, _, rfl, .inr (SqT.of upd_same), rfl, rfl, _, rfl, iteF ?_⟩⟩
    have s1 : Same H (upd H t (.tup [.str "either", .str "ours"])) := same_upd (Same.refl H) ht
    exact ⟨_, rfl, a, _, rfl, .inr (SqT.of (s1 _ _ ha)), _, _, rfl, rfl, by show 1 ≤ sizeLine; decide, fun t2 ht2 => k _ _ (same_upd s1 (s1.free ht2)) ⟨t2, rfl, upd_same⟩⟩
  | either p q =>
    obtain ⟨a, x, y, rfl, ha, hx, hy⟩ := hp
    refine ⟨_, rfl, a, _, 0, .str "either", rfl, rfl, SqT.of ha, atI_nat (j := 0) rfl, rfl, _, rfl, iteNe (by decide) ?_⟩
    refine ⟨_, rfl, a, _, 0, .str "either", rfl, rfl, SqT.of ha, atI_nat (j := 0) rfl, by show 2 ≤ sizeLine; decide, fun t ht => ⟨t, _, rfl, .inr (SqT.of upd_same), rfl, rfl, _, rfl, iteT ?_⟩⟩
    have s1 : Same H (upd H t (.tup [.str "either", .str "ours"])) := same_upd (Same.refl H) ht
    exact ⟨by show 2 ≤ sizeLine; decide, fun t2 ht2 => k _ _ (same_upd s1 (s1.free ht2)) ⟨t2, rfl, upd_same⟩⟩
  | ours p q =>
    obtain ⟨a, x, y, rfl, ha, hx, hy⟩ := hp
    refine ⟨_, rfl, a, _, 0, .str "ours", rfl, rfl, SqT.of ha, atI_nat (j := 0) rfl, rfl, _, rfl, iteNe (by decide) ?_⟩
    refine ⟨_, rfl, a, _, 0, .str "ours", rfl, rfl, SqT.of ha, atI_nat (j := 0) rfl, by show 2 ≤ sizeLine; decide, fun t ht => ⟨t, _, rfl, .inr (SqT.of upd_same), rfl, rfl, _, rfl, iteT ?_⟩⟩
    have s1 : Same H (upd H t (.tup [.str "either", .str "ours"])) := same_upd (Same.refl H) ht
    exact ⟨by show 2 ≤ sizeLine; decide, fun t2 ht2 => k _ _ (same_upd s1 (s1.free ht2)) ⟨t2, rfl, upd_same⟩⟩
end
end K40
end
section
set_option Elab.async false
set_option linter.all false
set_option autoImplicit false
set_option maxRecDepth 100000
/-! Plans as data; what stands within a plan. -/
namespace K40
open PySem PySem.Spec PyProof.Rows L2
theorem lay_ints : ∀ ns : List Int, PyData.canLayAll0 (ns.map .int) = true
  | [] => by simp [PyData.canLayAll0]
  | n :: ns => by simp [PyData.canLayAll0, PyData.canLay0, lay_ints ns]
theorem depthAll_ints : ∀ ns : List Int, PyData.depthAll (ns.map .int) = 0
  | [] => by simp [PyData.depthAll]
  | n :: ns => by simp [PyData.depthAll, PyData.depth, depthAll_ints ns]
theorem rowD_lay (r : Row) : (rowD r).canLay0 = true := by
  unfold rowD
  rw [PyData.canLay0]
  exact lay_ints r
theorem rowD_depth (r : Row) : (rowD r).depth = 1 := by
  unfold rowD
  rw [PyData.depth, depthAll_ints]
namespace Plan
def data : Plan → PyData
  | fin => .tuple [.str "end"]
  | ask r p => .tuple [.str "ask", rowD r, p.data]
  | bring r p => .tuple [.str "bring", rowD r, p.data]
  | either a b => .tuple [.str "either", a.data, b.data]
  | ours a b => .tuple [.str "ours", a.data, b.data]
theorem At.dp {K : PySem.W.Frag} {H : Hp} : ∀ {p : Plan} {v : V}, p.At H v → Dp K H v p.data
  | fin, _, ⟨a, h1, h2⟩ => by
    subst h1
    exact .tup (SqT.of h2) (.cons (.str _) .nil)
  | ask _ p, _, ⟨a, x, y, h1, h2, h3, h4⟩ => by
    subst h1
    exact .tup (SqT.of h2) (.cons (.str _) (.cons h3.dp (.cons h4.dp .nil)))
  | bring _ p, _, ⟨a, x, y, h1, h2, h3, h4⟩ => by
    subst h1
    exact .tup (SqT.of h2) (.cons (.str _) (.cons h3.dp (.cons h4.dp .nil)))
  | either p q, _, ⟨a, x, y, h1, h2, h3, h4⟩ => by
    subst h1
    exact .tup (SqT.of h2) (.cons (.str _) (.cons h3.dp (.cons h4.dp .nil)))
  | ours p q, _, ⟨a, x, y, h1, h2, h3, h4⟩ => by
    subst h1
    exact .tup (SqT.of h2) (.cons (.str _) (.cons h3.dp (.cons h4.dp .nil)))
theorem clean : ∀ p : Plan, p.data.canLay0 = true ∧ p.data.depth ≤ p.depth + 1
  | fin => by
    refine ⟨by decide +kernel, ?_⟩
    simp [data, depth, PyData.depth, PyData.depthAll]
  | ask r p => by
    obtain ⟨h1, h2⟩ := clean p
    refine ⟨?_, ?_⟩
    · have e : PyData.canLay0 (.str "ask") = true := by decide +kernel
      simp [data, PyData.canLay0, PyData.canLayAll0, e, rowD_lay, h1]
      exact e
    · simp only [data, depth, PyData.depth, PyData.depthAll, rowD_depth]
      omega
  | bring r p => by
    obtain ⟨h1, h2⟩ := clean p
    refine ⟨?_, ?_⟩
    · have e : PyData.canLay0 (.str "bring") = true := by decide +kernel
      simp [data, PyData.canLay0, PyData.canLayAll0, e, rowD_lay, h1]
      exact e
    · simp only [data, depth, PyData.depth, PyData.depthAll, rowD_depth]
      omega
  | either a b => by
    obtain ⟨h1, h2⟩ := clean a
    obtain ⟨h3, h4⟩ := clean b
    refine ⟨?_, ?_⟩
    · have e : PyData.canLay0 (.str "either") = true := by decide +kernel
      simp [data, PyData.canLay0, PyData.canLayAll0, e, h1, h3]
      exact e
    · simp only [data, depth, PyData.depth, PyData.depthAll]
      omega
  | ours a b => by
    obtain ⟨h1, h2⟩ := clean a
    obtain ⟨h3, h4⟩ := clean b
    refine ⟨?_, ?_⟩
    · have e : PyData.canLay0 (.str "ours") = true := by decide +kernel
      simp [data, PyData.canLay0, PyData.canLayAll0, e, h1, h3]
      exact e
    · simp only [data, depth, PyData.depth, PyData.depthAll]
      omega
/-- what stands within, the places from behind -/
def kids : Plan → List (Nat × Plan)
  | fin => []
  | ask _ q => [(2, q)]
  | bring _ q => [(2, q)]
  | either a b => [(2, b), (1, a)]
  | ours a b => [(2, b), (1, a)]
def total (ks : List (Row × Plan)) : Nat := (ks.map fun k => k.2.parts).sum
theorem At.sub {H : Hp} : ∀ {p : Plan} {v : V}, p.At H v → ∃ a xs, v = .ref a ∧ H a = some (.tup xs) ∧ ∀ k ∈ p.kids, ∃ y, xs[k.1]? = some y ∧ k.2.At H y
  | fin, _, ⟨a, h1, h2⟩ => ⟨a, _, h1, h2, fun k hk => by simp [kids] at hk⟩
  | ask _ p, _, ⟨a, x, y, h1, h2, h3, h4⟩ => ⟨a, _, h1, h2, fun k hk => by
    simp [kids] at hk
    subst hk
    exact ⟨y, rfl, h4⟩⟩
  | bring _ p, _, ⟨a, x, y, h1, h2, h3, h4⟩ => ⟨a, _, h1, h2, fun k hk => by
    simp [kids] at hk
    subst hk
    exact ⟨y, rfl, h4⟩⟩
  | either p q, _, ⟨a, x, y, h1, h2, h3, h4⟩ => ⟨a, _, h1, h2, fun k hk => by
    simp [kids] at hk
    rcases hk with rfl | rfl
    · exact ⟨y, rfl, h4⟩
    · exact ⟨x, rfl, h3⟩⟩
  | ours p q, _, ⟨a, x, y, h1, h2, h3, h4⟩ => ⟨a, _, h1, h2, fun k hk => by
    simp [kids] at hk
    rcases hk with rfl | rfl
    · exact ⟨y, rfl, h4⟩
    · exact ⟨x, rfl, h3⟩⟩
theorem kids_parts (p : Plan) : p.parts = 1 + (p.kids.map fun k => k.2.parts).sum := by
  cases p <;> simp [parts, kids] <;> omega
theorem kids_depth (p : Plan) : ∀ k ∈ p.kids, k.2.depth + 1 ≤ p.depth := by
  intro k hk
  cases p <;> simp [kids] at hk
  · subst hk; simp [depth]
  · subst hk; simp [depth]
  · rcases hk with rfl | rfl <;> simp [depth] <;> omega
  · rcases hk with rfl | rfl <;> simp [depth] <;> omega
theorem kids_ok {n : Nat} {m : Int} (p : Plan) (h : p.Ok n m) : ∀ k ∈ p.kids, k.2.Ok n m := by
  intro k hk
  cases p <;> simp [kids] at hk
  · subst hk; exact h.2
  · subst hk; exact h.2
  · rcases hk with rfl | rfl
    · exact h.2
    · exact h.1
  · rcases hk with rfl | rfl
    · exact h.2
    · exact h.1
theorem parts_pos : ∀ p : Plan, 1 ≤ p.parts
  | fin => Nat.le_refl _
  | ask _ p => Nat.succ_le_succ (Nat.zero_le _)
  | bring _ p => Nat.succ_le_succ (Nat.zero_le _)
  | either a b => Nat.succ_le_succ (Nat.zero_le _)
  | ours a b => Nat.succ_le_succ (Nat.zero_le _)
end Plan
end K40
end
section
set_option Elab.async false
set_option linter.all false
set_option autoImplicit false
set_option maxRecDepth 100000
set_option maxHeartbeats 4000000
/-! A lambda of one parameter, called in the def that got it. -/
namespace K40
open PySem PySem.Spec PyProof.Rows L2 LamX NdefX
section
variable {P : Program} {w : World} {K : PySem.W.Frag} {mg : Str → Option Value} {base : Heap} {N fr : List Str} {p : Str} {F : NF} {f : Addr} {A : Around} {outer : List Env} {s : Shared} {H : Hp} {u : Value} {v : V} {ws : List (Option V)} {Q : VK} {k : Nat} {params : Arguments} {body : Expr} {tb : TE} {pm ctv : Value}
/-- the lambda runs -/
theorem lam_run (S : NScope N [p] fr F.scope) (hr : Room (k + 1) A) (e0 : Env0 P w K mg base A outer s H) (at_ : s.heap.get? f = some (PySem.W.kla_obj F.name F.qual params body F.scope F.cl pm F.c ctv)) (code : H F.c = some (CodeO F.c F.qual))
    (bind : ∀ x : Value, bindArgs (PySem.W.kla_fn F.name F.qual params body F.scope F.cl pm (.ref F.c) ctv) ⟨[x], []⟩ = pure [(p, x)]) (C : CellsAt F.cl fr ws s.heap H) (rv : RelV v u)
    (walk : Room k (A.deeper (envF F f s.heap.objs.size)) → PE (ncx CX0 P w K mg base N F f A outer s H E0) body tb) (read : tb (startF N [v] ws) H Q) :
    codeAny (model P w) A (.call (.ref f) ⟨[u], []⟩) (CR CX0 outer P w H s Q E0) s := by
  have lim : s.heap.NoLimit := e0.mod.nolimit.keeps fun b o e => (e0.bs b o e).1
  refine PySem.W.kla_callFunE hr.depth at_ rfl S.co S.gen rfl (codeO_at e0.hok code) ?_
  have b := bind u
  rw [show bindArgs _ ⟨[u], []⟩ = _ from b]
  refine wpAny_pure (wpAny_newFunctionEnv S.nocell (fun ⟨n, _⟩ hy => S.par n (by simp at hy; simp [hy.1])) (fun h₁ hns hsb => ⟨lim.fresh _ hsb, ?_⟩) S.kind)
  show codeAny _ _ (.expr body (envF F f s.heap.objs.size)) _ _
  have kp : ∀ b o, s.heap.get? b = some o → h₁.get? b = some o := fun b o e => hsb.extBut b o (Nat.ne_of_lt (Heap.lt_size e)) (Heap.get?_push_of_some _ e)
  have I : Inv (ncx CX0 P w K mg base N F f A outer s H E0) [] (startF N [v] ws) H { s with heap := h₁, toks := s.toks + ([(p, u)] : List (Str × Value)).length } :=
    inv_startN (us := [u]) S hr.hd e0 rfl (.cons rv .nil) C hns kp
  refine PySem.W.kla_codeExpr (wpAny_mono ((walk (hr.deeper _)).run [] _ _ H Q I read) (fun x s' hq => ?_) fun e s' hq => hq)
  obtain ⟨y, H', J, r, q⟩ := hq
  exact ⟨y, H', J.os, J.bare, J.base, J.hok, r, q⟩
end
/-- a(e), a the parameter that holds the lambda at f; sp: what the lambda makes of its argument -/
def tLam1 (i : Nat) (f c' : Addr) (q : Str) (te : TE) (sp : V → Hp → VK → Prop) : TE := fun σ H Q => σ[i]? = some (some (.ref f)) ∧ te σ H fun v H1 => H1 c' = some (CodeO c' q) ∧ sp v H1 Q
section
variable {Z : Cx} {N fr : List Str} {p a : Str} {F : NF} {f : Addr} {ws : List (Option V)} {k i : Nat} {params : Arguments} {body : Expr} {tb : TE} {pm ctv : Value} {e : Expr} {te : TE} {p1 p2 : Pos}
theorem pe_lam1 (S : NScope N [p] fr F.scope) (hr : Room (k + 1) Z.A) (at_ : Z.s_0.heap.get? f = some (PySem.W.kla_obj F.name F.qual params body F.scope F.cl pm F.c ctv)) (un : Z.H_0 f = none) (nf : f ∉ Z.fs) (nx : f ∉ Z.ex)
    (bind : ∀ x : Value, bindArgs (PySem.W.kla_fn F.name F.qual params body F.scope F.cl pm (.ref F.c) ctv) ⟨[x], []⟩ = pure [(p, x)]) (C : CellsAt F.cl fr ws Z.s_0.heap Z.H_0) (cf : ∀ y c, F.cl.lookup y = some c → c ∉ Z.fs) (cx : ∀ y c, F.cl.lookup y = some c → c ∉ Z.ex)
    (walk : ∀ (A : Around) (outer : List Env) (s : Shared) (H : Hp), Room k (A.deeper (envF F f s.heap.objs.size)) → PE (ncx CX0 Z.prog Z.w Z.K Z.mg Z.base N F f A outer s H E0) body tb)
    (hN : Z.N[i]? = some a) (hv : Vis Z.env.scope a) (he : PE Z e te) (hd : (a == ("__debug__" : Str)) = false := by decide) (hcd : (a == ("__classdict__" : Str)) = false := by decide)
    (hs : starEach (e :: []) Z.env = (false, eval e Z.env) :: starEach [] Z.env := by rfl) (hpl : (backTo p2 (starEach [] Z.env)).any (·.1) = false := by rfl) :
    PE Z (.Call (.Name a p1) [e] [] p2) (tLam1 i f F.c F.qual te fun v H Q => tb (startF N [v] ws) H Q) := by
  refine ⟨fun pins s σ H Q I h => ?_⟩
  obtain ⟨hσ, h⟩ := h
  refine wpAny_Call_Name_kw (thn ((pe_var (pos := p1) (i := i) hN hv hd hcd).run pins s σ H (fun v H1 => v = .ref f ∧ H1 = H) I ⟨.ref f, hσ, rfl, rfl⟩) fun u s1 ⟨v, H1, I1, r1, ev, eH⟩ => ?_)
  subst ev eH
  obtain rfl : u = Value.ref f := r1
  have obj : ∀ {s' : Shared} {σ' : L2.St} {H' : Hp}, Inv Z pins σ' H' s' → s'.heap.get? f = some (PySem.W.kla_obj F.name F.qual params body F.scope F.cl pm F.c ctv) := fun J => J.base.keep f _ at_ un nf nx
  have args : tCons (tMono te) tNil σ H1 fun vs H2 => ∃ v, vs = [v] ∧ H2 F.c = some (CodeO F.c F.qual) ∧ tb (startF N [v] ws) H2 Q := ⟨_, h, fun v H2 q => ⟨v, rfl, q.1, q.2⟩⟩
  refine PySem.W.callWith_F (first := []) ⟨_, _, _, _, obj I1⟩ (thn ((pa_cons (pe_mono he) pa_nil hs).run p2 pins s1 σ H1 _ I1 args) fun us s2 ⟨vs, H2, I2, r, v, ev, hc, q⟩ => ⟨⟨_, _, _, _, obj I2⟩, ?_⟩) hs hpl
  subst ev
  show wpAny _ _ (call (.ref f) us) _ _ _
  cases r with
  | @cons _ u0 _ ur rv rn =>
    cases rn
    have run := lam_run (outer := Z.stack) (A := Z.A) S hr I2.env0 (obj I2) hc bind (C.later cf cx I2) rv (fun _ => walk Z.A Z.stack s2 H2 (hr.deeper _)) q
    refine wpAny_call (codeAny_mono run fun r' s' hq => ?_)
    cases r' with
    | error e => exact (show False from hq).elim
    | ok fl =>
      cases fl with
      | ret u => exact I2.after hq
      | next => exact False.elim hq
      | brk => exact False.elim hq
      | cont => exact False.elim hq
end
end K40
end
section
set_option Elab.async false
set_option linter.all false
set_option autoImplicit false
set_option maxRecDepth 100000
set_option maxHeartbeats 4000000
/-! need_forms with the lambda of need_plan. -/
namespace K40
open PySem PySem.Spec PyProof.Rows L2 LamX NdefX
/-- two tuples one behind the other: what is told does not hang on which object it is -/
def rCatU : R2 := fun x y H Q => ∃ a b xs ys, x = .ref a ∧ y = .ref b ∧ H a = some (.tup xs) ∧ H b = some (.tup ys) ∧ xs.length + ys.length ≤ 1000 ∧ ∀ H' p, Same H H' → H' p = some (.tup (xs ++ ys)) → Q (.ref p) H'
theorem op_catU {X : Cx} : OpR X (binaryOp .Add) rCatU := by
  intro pins s σ H x y v u Q I rx ry h
  obtain ⟨a, b, xs, ys, rfl, rfl, ha, hb, hz, q⟩ := h
  refine op_catA pins s σ H (.ref a) (.ref b) v u Q I rx ry ⟨a, b, xs, ys, rfl, rfl, SqT.of ha, SqT.of hb, Nat.le_of_lt (size_small (by omega)), fun e => ?_, fun _ e => ?_, fun _ _ p hp => ?_⟩
  · subst e
    exact q H b (Same.refl H) hb
  · subst e
    rw [List.append_nil] at q
    exact q H a (Same.refl H) ha
  · exact q _ p (same_new hp _) upd_same
theorem paired_snoc {α β : Type} {F : α → β → Prop} : ∀ {ks : List β} {vs : List α} {k : β}, Paired F vs (ks ++ [k]) → ∃ vs' v, vs = vs' ++ [v] ∧ Paired F vs' ks ∧ F v k
  | [], _, k, .cons r .nil => ⟨[], _, rfl, .nil, r⟩
  | k0 :: ks, _, k, .cons r t => by
    obtain ⟨vs', v, e, h1, h2⟩ := paired_snoc t
    exact ⟨_ :: vs', v, by rw [e]; rfl, .cons r h1, h2⟩
theorem paired_nil {α β : Type} {F : α → β → Prop} : ∀ {vs : List α}, Paired F vs ([] : List β) → vs = []
  | _, .nil => rfl
theorem places_kids (p : Plan) : (places p).length = p.kids.length ∧ ∀ i x, i < (places p).length → (places p)[(places p).length - 1 - i]? = some x → ∃ k, p.kids[i]? = some k ∧ x = (k.1 : Int) := by
  have two : ∀ (a b : Plan) (i : Nat) (x : Int), i < 2 → ([1, 2] : List Int)[2 - 1 - i]? = some x → ∃ k, ([(2, b), (1, a)] : List (Nat × Plan))[i]? = some k ∧ x = (k.1 : Int) := by
    intro a b i x hi e
    match i, hi with
    | 0, _ =>
      have e : some (2 : Int) = some x := e
      exact ⟨(2, b), rfl, (Option.some.inj e).symm⟩
    | 1, _ =>
      have e : some (1 : Int) = some x := e
      exact ⟨(1, a), rfl, (Option.some.inj e).symm⟩
  have one : ∀ (a : Plan) (i : Nat) (x : Int), i < 1 → ([2] : List Int)[1 - 1 - i]? = some x → ∃ k, ([(2, a)] : List (Nat × Plan))[i]? = some k ∧ x = (k.1 : Int) := by
    intro a i x hi e
    match i, hi with
    | 0, _ =>
      have e : some (2 : Int) = some x := e
      exact ⟨(2, a), rfl, (Option.some.inj e).symm⟩
  cases p with
  | fin => exact ⟨rfl, fun i x hi => absurd hi (Nat.not_lt_zero i)⟩
  | ask r q => exact ⟨rfl, one q⟩
  | bring r q => exact ⟨rfl, one q⟩
  | either a b => exact ⟨rfl, two a b⟩
  | ours a b => exact ⟨rfl, two a b⟩
theorem total_app (a b : List (Row × Plan)) : Plan.total (a ++ b) = Plan.total a + Plan.total b := by
  unfold Plan.total
  rw [List.map_append, List.sum_append]
theorem total_len : ∀ ks : List (Row × Plan), ks.length ≤ Plan.total ks
  | [] => by simp
  | z :: zs => by
    have h1 := total_len zs
    have h2 := z.2.parts_pos
    have e : Plan.total (z :: zs) = z.2.parts + Plan.total zs := by simp [Plan.total]
    rw [List.length_cons, e]
    omega
theorem kids_len (p : Plan) : p.kids.length ≤ 2 := by cases p <;> simp [Plan.kids]
/-- a pair of a path and a plan -/
def ItemAt (H : Hp) (v : V) (k : Row × Plan) : Prop := ∃ a x y, v = .ref a ∧ H a = some (.tup [x, y]) ∧ TI H x k.1 ∧ k.2.At H y
theorem ItemAt.same {H H' : Hp} {v : V} {k : Row × Plan} (h : ItemAt H v k) (e : TupsStay H H') : ItemAt H' v k := by
  obtain ⟨a, x, y, h1, h2, h3, h4⟩ := h
  exact ⟨a, x, y, h1, e _ _ h2, h3.mono e, h4.mono e⟩
def itemD (k : Row × Plan) : PyData := .tuple [rowD k.1, k.2.data]
theorem items_dp {K : PySem.W.Frag} {H : Hp} : ∀ {vs : List V} {ks : List (Row × Plan)}, Paired (ItemAt H) vs ks → DpAll K H vs (ks.map itemD)
  | _, _, .nil => .nil
  | _, _, .cons ⟨a, x, y, h1, h2, h3, h4⟩ t => by
    subst h1
    exact .cons (.tup (SqT.of h2) (.cons h3.dp (.cons h4.dp .nil))) (items_dp t)
theorem items_lay (ks : List (Row × Plan)) : PyData.canLayAll0 (ks.map itemD) = true := by
  induction ks with
  | nil => simp [PyData.canLayAll0]
  | cons k ks ih =>
    simp only [List.map_cons, PyData.canLayAll0, itemD, PyData.canLay0, rowD_lay, (Plan.clean k.2).1, ih, Bool.and_self]
theorem items_depth {n : Nat} : ∀ ks : List (Row × Plan), (∀ k ∈ ks, k.2.depth ≤ n) → PyData.depthAll (ks.map itemD) ≤ n + 2
  | [], _ => by simp [PyData.depthAll]
  | k :: ks, h => by
    have h1 := items_depth ks fun k hk => h k (List.mem_cons_of_mem _ hk)
    have h2 := (Plan.clean k.2).2
    have h3 := h k (by simp)
    simp only [List.map_cons, PyData.depthAll, itemD, PyData.depth, rowD_depth]
    omega
theorem shaped_line {n : Nat} (ks : List (Row × Plan)) (h : ∀ k ∈ ks, k.2.depth ≤ n) (hn : n ≤ 50) : SeqAt.shaped (.list (ks.map itemD)) = true := by
  unfold SeqAt.shaped
  rw [PyData.canLay0, items_lay, PyData.depth]
  have := items_depth ks h
  simp
  omega
theorem shaped_nil : SeqAt.shaped (.list []) = true := by decide +kernel
/-- what need_forms makes of the plan v (units vu): nothing, or an error -/
def nfP (C : Addr) (v vu : V) (H : Hp) (Q : VK) (E : XK) : Prop := ∃ us, TI H vu us ∧
  ((∃ p : Plan, p.At H v ∧ p.Ok (us.length + 1) (10 ^ 60) ∧ p.depth ≤ 16 ∧ p.parts ≤ 60 ∧ ∀ H', Same H H' → Q .non H') ∨
   (∃ a x, v = .ref a ∧ H a = some (.tup [.str "end", x]) ∧ Plan.fin.At H x ∧ ∀ H' d t, Same H H' → H d = none → H' d = some (.xd [("path", .ref t)]) → H' t = some (.tup []) → E (.ref C) (some d) H'))
section
variable {P : Program} {w : World} {K : PySem.W.Frag} {mg : Str → Option Value} {base : Heap}
theorem scNeedForms : FnScope ["value", "fits", "line", "count", "path", "here", "place"] ["value", "fits"] (defScope sNeedForms) := ⟨rfl, rfl, rfl, by decide +kernel, rfl, by decide +kernel, by decide +kernel⟩
theorem run_needForms (T : We K mg) {A : Around} {outer : List Env} {s : Shared} {H : Hp} {u : Value} {v vu : V} {f : Addr} {F : NF} {params : Arguments} {body : Expr} {pm ctv : Value} {Q : VK} {E : XK}
    (hr : Room 8 A) (e0 : Env0 P w K mg base A outer s H) (rv : RelV v u) (LS : NScope ["here", "units"] ["here"] ["units"] F.scope)
    (at_ : s.heap.get? f = some (PySem.W.kla_obj F.name F.qual params body F.scope F.cl pm F.c ctv)) (un : H f = none) (nfr : f ∉ frs outer) (code : H F.c = some (CodeO F.c F.qual))
    (bind : ∀ x : Value, bindArgs (PySem.W.kla_fn F.name F.qual params body F.scope F.cl pm (.ref F.c) ctv) ⟨[x], []⟩ = pure [(("here" : Str), x)]) (C : CellsAt F.cl ["units"] [some vu] s.heap H) (cf : ∀ y c, F.cl.lookup y = some c → c ∉ frs outer)
    (walk : ∀ (A : Around) (outer : List Env) (s : Shared) (H : Hp), Room 4 (A.deeper (envF F f s.heap.objs.size)) → PE (ncx CX0 P w K mg base ["here", "units"] F f A outer s H E0) body (tCall spIsStep [] E0 (tCons (tVar 1) (tCons (tVar 0) tNil))))
    (h : nfP T.badPlan.C v vu H Q E) : codeAny (model P w) A (.call (.ref T.needForms.f) ⟨[u, .ref f], []⟩) (CR (L2.CX P w) outer P w H s Q E) s := by
  have GPlacesIn := ok_placesIn (P := P) (w := w) (base := base) T.toWd
  obtain ⟨oc, od, kV, doc, pmv, an, cdv, ct, osl, efd, lk, hcd⟩ := T.needForms.F.ex
  have hb := T.needForms.b s [u, .ref f] (e0.mod.kin.keeps fun b o e => (e0.bs b o e).1) rfl
  rw [efd, List.append_nil] at hb
  rw [efd] at lk
  refine run_ofS (k := 7) (N := ["value", "fits", "line", "count", "path", "here", "place"]) (ps := ["value", "fits"]) (us := [u, .ref f]) (vs := [v, .ref f]) lk hcd scNeedForms hr e0 hb (.cons rv (.cons rfl .nil)) rfl fun hr' => ?_
  have hr := hr'
  refine ⟨_, (pss_cons (ps_set (i := 2) scNeedForms.nd rfl (.inl rfl) (pe_lst (pa_cons (pe_tup (pa_cons (pe_tup pa_nil) (pa_cons (pv 0) pa_nil))) pa_nil)))
 (pss_cons (ps_set (i := 3) scNeedForms.nd rfl (.inl rfl) pe_int)
 (pss_one (ps_while (passes_of rfl) (pt_cmpR (op_neD (hu64_of hr)) (pv 2) (pe_lst pa_nil) (nomark _)) (pss_cons (ps_asg (pe_bm0 PySem.F.plainAttrs_list PySem.F.slot_list_pop PySem.F.type_list_pop mt_pop (pv 2)) (pg_tup rfl (pgs_cons (pg_name (i := 4) scNeedForms.nd rfl (.inl rfl)) (pgs_cons (pg_name (i := 5) scNeedForms.nd rfl (.inl rfl)) pgs_nil))))
 (pss_cons (ps_if (pt_cmpR op_gt (pe_op op_add (pe_callB call_len_seq (by rfl) T.nLen (by decide +kernel) (pa_cons (pv 4) pa_nil)) pe_int) (pe_glob (v := .int 16) rfl T.cMostDeep ⟨_, rfl⟩) (nomark _)) (pss_one (ps_raiseC rfl (takes_of rfl rfl rfl rfl) T.tooGreat.ex T.tooGreat.no (ok_tooGreatInit T) (k := 1) (hr.mono (by first | decide | omega)) T.tooGreat.b rfl T.tooGreat.g (pe_glob (v := .int 16) rfl T.cMostDeep ⟨_, rfl⟩))) pss_nil)
 (pss_cons (ps_set (i := 3) scNeedForms.nd rfl (.inl rfl) (pe_op op_add (pv 3) pe_int))
 (pss_cons (ps_if (pt_cmpR op_gt (pv 3) (pe_glob (v := .int 60) rfl T.cMostParts ⟨_, rfl⟩) (nomark _)) (pss_one (ps_raiseC rfl (takes_of rfl rfl rfl rfl) T.tooGreat.ex T.tooGreat.no (ok_tooGreatInit T) (k := 1) (hr.mono (by first | decide | omega)) T.tooGreat.b rfl T.tooGreat.g (pe_glob (v := .int 60) rfl T.cMostParts ⟨_, rfl⟩))) pss_nil)
 (pss_cons (ps_if (pt_not (pt_val (pe_lam1 (i := 1) LS (hr.mono (by decide : 5 ≤ 7)) at_ un nfr (by intro z; cases z) bind C cf (fun _ _ _ z => by cases z) walk rfl (.inl rfl) (pv 5)))) (pss_one (ps_raiseC rfl (takes_of rfl rfl rfl rfl) T.badPlan.ex T.badPlan.no (ok_badPlanInit T) (k := 1) (hr.mono (by first | decide | omega)) T.badPlan.b rfl T.badPlan.g (pv 4))) pss_nil)
 (pss_one (ps_for (passes_of rfl) rfl (RT.pi_revA rfl T.nReversed (pe_call GPlacesIn (hr.mono (by first | decide | omega)) rfl T.placesIn.g T.placesIn.F.kp T.placesIn.b .nil pass0 (pa_cons (pv 5) pa_nil))) (pg_name (i := 6) scNeedForms.nd rfl (.inl rfl)) (pss_one (ps_expr (pe_bm PySem.F.plainAttrs_list PySem.F.slot_list_append PySem.F.type_list_append mt_append (pv 2) (pa_cons (pe_tup (pa_cons (pe_op op_catU (pv 4) (pe_tup (pa_cons (pv 6) pa_nil))) (pa_cons (pe_ix ix_tup (pv 5) (pv 6) (fun _ _ => rfl)) pa_nil))) pa_nil))))))))))))))), ?_⟩
  obtain ⟨us, hu, h⟩ := h
  refine ⟨by show 0 ≤ sizeLine; decide, fun t0 n0 => ⟨_, rfl, by show 2 ≤ sizeLine; decide, fun t1 n1 => ⟨by show 1 ≤ sizeLine; decide, fun L nL => ?_⟩⟩⟩
  have sA : Same H (upd H t0 (.tup [])) := same_upd (Same.refl H) n0
  have sB : Same H (upd (upd H t0 (.tup [])) t1 (.tup [.ref t0, v])) := same_upd sA (sA.free n1)
  have hLn : H L = none := sB.free nL
  have sC : Same H (upd (upd (upd H t0 (.tup [])) t1 (.tup [.ref t0, v])) L (.lst [.ref t1])) := same_upd sB hLn
  have nt10 : t0 ≠ t1 := ne_of_none upd_same n1
  have ntL : t1 ≠ L := ne_of_none upd_same nL
  have nt0L : t0 ≠ L := ne_of_none (o := .tup []) (by rw [upd_ne nt10]; exact upd_same) nL
  have at1 : upd (upd (upd H t0 (.tup [])) t1 (.tup [.ref t0, v])) L (.lst [.ref t1]) t1 = some (.tup [.ref t0, v]) := (upd_ne ntL).trans upd_same
  have at0 : upd (upd (upd H t0 (.tup [])) t1 (.tup [.ref t0, v])) L (.lst [.ref t1]) t0 = some (.tup []) := (upd_ne nt0L).trans ((upd_ne nt10).trans upd_same)
  rcases h with ⟨p, hp, ok, hd, hpt, q⟩ | ⟨a, x, rfl, ha, hx, q⟩
  · refine ⟨fun m σ H' => ∃ vs ks c v4 v5 v6, σ = [some v, some (.ref f), some (.ref L), some (.int c), v4, v5, v6] ∧ Same H H' ∧ H' L = some (.lst vs) ∧ Paired (ItemAt H') vs ks ∧
      (∀ k ∈ ks, k.1.length + k.2.depth ≤ 16 ∧ k.2.Ok (us.length + 1) (10 ^ 60)) ∧ m = Plan.total ks ∧ 0 ≤ c ∧ c + (m : Int) ≤ 60, ⟨p.parts, _, [([], p)], 0, none, none, none, rfl, sC, upd_same, ?_, ?_, ?_, by omega, by omega⟩, ?_⟩
    · exact .cons ⟨t1, _, _, rfl, at1, ⟨t0, rfl, at0⟩, hp.same sC⟩ .nil
    · intro k hk
      simp at hk
      subst hk
      exact ⟨by simpa using hd, ok⟩
    · simp [Plan.total]
    · rintro m σ H' ⟨vs, ks, c, v4, v5, v6, rfl, s1, hl, hv, hk, rfl, c0, c1⟩
      refine ⟨_, rfl, by show 0 ≤ sizeLine; decide, fun e ne => ?_⟩
      have neL : L ≠ e := ne_of_none hl ne
      have s2 : Same H' (upd H' e (.lst [])) := same_new ne _
      have hv2 : Paired (ItemAt (upd H' e (.lst []))) vs ks := Paired.mp' hv fun _ _ z => z.same (.of s2)
      have hl2 := s2 _ _ hl
      refine ⟨_, _, .lst (SqL.of hl2) (items_dp hv2), .lst (SqL.of upd_same) .nil, shaped_line (n := 16) ks (fun k m => by have := (hk k m).1; omega) (by omega), shaped_nil, _, rfl, ?_⟩
      rcases List.eq_nil_or_concat ks with rfl | ⟨ks', k, rfl⟩
      · show if (!PyData.eqv (.list []) (.list [])) = true then _ else _
        rw [show PyData.eqv (.list []) (.list []) = true by decide +kernel]
        exact iteF (q _ (s1.trans s2))
      · rw [List.concat_eq_append] at hv2 hk c1 ⊢
        obtain ⟨vs', v0, rfl, hv', a0, x0, y0, rfl, ha0, ⟨b, rfl, hb⟩, hy0⟩ := paired_snoc hv2
        have ev : PyData.eqv (.list ((ks' ++ [k]).map itemD)) (.list []) = false := by
          rw [List.map_append]
          cases ks' with
          | nil => simp [PyData.eqv, PyData.eqvAll]
          | cons z zs => simp [PyData.eqv, PyData.eqvAll]
        rw [ev]
        obtain ⟨kd, kok⟩ := hk k (by simp)
        have kp := k.2.depth_pos
        rw [total_app] at c1
        have e1 : Plan.total [k] = k.2.parts := by simp [Plan.total]
        have kpp := k.2.parts_pos
        refine iteT ⟨fun σ' H' => ∃ m', m' < Plan.total (ks' ++ [k]) ∧ _, fun σ' H' z => z, ?_⟩
        have nTL : ∀ xs, upd H' e (.lst []) L ≠ some (.tup xs) := notT hl2 fun _ z => by cases z
        have sD : Sb L (upd H' e (.lst [])) (upd (upd H' e (.lst [])) L (.lst vs')) := (Sb.refl L _).upd
        have stD := sD.tups nTL
        refine ⟨_, rfl, .inl ⟨rfl, _, SqL.of hl2⟩, L, _, .ref a0, rfl, rfl, hl2, by simp, ?_⟩
        rw [List.dropLast_concat]
        refine ⟨a0, _, rfl, SqT.of (stD _ _ ha0), rfl, _, _, rfl, _, _, rfl, rfl, ?_⟩
        refine ⟨_, rfl, b, _, rfl, .inr (SqT.of (stD _ _ hb)), _, _, rfl, rfl, _, _, rfl, rfl, _, rfl, ?_⟩
        rw [decide_eq_false (by rw [List.length_map]; omega)]
        refine iteF ?_
        refine ⟨_, rfl, _, _, rfl, rfl, ?_⟩
        refine ⟨_, rfl, _, _, rfl, rfl, _, rfl, ?_⟩
        rw [decide_eq_false (by omega)]
        refine iteF ?_
        have sHD : Same H (upd (upd H' e (.lst [])) L (.lst vs')) := ((Sb.of (s1.trans s2)).trans sD).same hLn
        refine ⟨rfl, _, rfl, sHD _ _ code, _, rfl, _, rfl, vu, y0, us, rfl, hu.same sHD, .inl ⟨k.2, hy0.mono stD, kok, fun H3 bv s3 eb => ?_⟩⟩
        refine ⟨true, eb, iteF ?_⟩
        have hy3 := (hy0.mono stD).same s3
        refine ⟨_, rfl, y0, k.2, rfl, hy3, fun H4 pv s4 hpv => ?_⟩
        obtain ⟨pa, rfl, hpa⟩ := hpv
        have s34 : Same (upd (upd H' e (.lst [])) L (.lst vs')) H4 := s3.trans s4
        have hL4 : H4 L = some (.lst vs') := s34 _ _ upd_same
        have hv4 : Paired (ItemAt H4) vs' ks' := Paired.mp' hv' fun _ _ z => (z.same stD).same (.of s34)
        obtain ⟨pl, pk⟩ := places_kids k.2
        obtain ⟨a5, xs5, ey5, ha5, sub5⟩ := Plan.At.sub ((hy3).same s4)
        have hb4 := s34 _ _ (stD _ _ hb)
        refine ⟨pa, _, rfl, .inr ⟨SqT.of hpa, RT.for_ItvT (fun i σ' H5 => ∃ vs5 v6', σ' = [some v, some (.ref f), some (.ref L), some (.int (c + 1)), some (.ref b), some y0, v6'] ∧ Sb L H4 H5 ∧ H5 L = some (.lst vs5) ∧
          Paired (ItemAt H5) vs5 (ks' ++ (k.2.kids.take i).map fun z => (k.1 ++ [(z.1 : Int)], z.2)) ∧ i ≤ k.2.kids.length) ⟨vs', _, rfl, Sb.refl L H4, hL4, by simpa using hv4, Nat.zero_le _⟩ (fun i σ' H5 ⟨_, _, _, s5, hL5, _⟩ => SqT.of (s5 _ _ (fun z => by rw [z, hL4] at hpa; cases hpa) hpa)) ?_ ?_⟩⟩
        · rintro i pv σ' H5 hi hpv ⟨vs5, v6', rfl, s5, hL5, hv5, il⟩
          rw [List.length_map] at hi hpv
          obtain ⟨px, hpx, rfl⟩ := mapI hpv
          obtain ⟨kid, hkid, rfl⟩ := pk i px hi hpx
          have nT5 : ∀ xs, H4 L ≠ some (.tup xs) := notT hL4 fun _ z => by cases z
          have st5 := s5.tups nT5
          have hb5 := st5 _ _ hb4
          have ha5' := st5 _ _ ha5
          obtain ⟨y5, hy5, hat5⟩ := sub5 kid (List.mem_iff_getElem?.mpr ⟨i, hkid⟩)
          have hat5' := hat5.mono st5
          subst ey5
          refine ⟨_, rfl, .inl ⟨rfl, _, SqL.of hL5⟩, ?_⟩
          refine ⟨_, rfl, _, rfl, by show 1 ≤ sizeLine; decide, fun t6 n6 => ?_⟩
          have s6 : Same H5 (upd H5 t6 (.tup [.int (kid.1 : Int)])) := same_new n6 _
          refine ⟨b, t6, _, _, rfl, rfl, s6 _ _ hb5, upd_same, ?_, fun H7 q7 s7 hq7 => ?_⟩
          · rw [List.length_map]
            simp
            omega
          have s57 : Same H5 H7 := s6.trans s7
          refine ⟨_, rfl, _, rfl, a5, xs5, _, y5, rfl, rfl, SqT.of (s57 _ _ ha5'), atI_nat hy5, by show 2 ≤ sizeLine; decide, fun t8 n8 => ?_⟩
          have s8 : Same H5 (upd H7 t8 (.tup [.ref q7, y5])) := same_upd s57 (s57.free n8)
          have s78 : Same H7 (upd H7 t8 (.tup [.ref q7, y5])) := same_new n8 _
          have hL8 := s8 _ _ hL5
          have lv5 : vs5.length ≤ 1000 := by
            have := Paired.length hv5
            rw [this, List.length_append, List.length_map]
            have h1 := List.length_take_le' i k.2.kids
            have h2 := total_len ks'
            have h3 := kids_len k.2
            omega
          refine ⟨L, vs5, .ref t8, rfl, rfl, hL8, size_small (by omega), vs5 ++ [.ref t8], _, rfl, (s5.trans (.of s8)).upd, upd_same, ?_, ?_⟩
          · have nT8 : ∀ xs, upd H7 t8 (.tup [.ref q7, y5]) L ≠ some (.tup xs) := notT hL8 fun _ z => by cases z
            have st8 : TupsStay (upd H7 t8 (.tup [.ref q7, y5])) (upd (upd H7 t8 (.tup [.ref q7, y5])) L (.lst (vs5 ++ [.ref t8]))) := ((Sb.refl L _).upd).tups nT8
            rw [take_snoc hkid, List.map_append, ← List.append_assoc]
            refine Paired.app (Paired.mp' hv5 fun _ _ z => (z.same (.of s8)).same st8) (.cons ⟨t8, .ref q7, y5, rfl, st8 _ _ upd_same, ⟨q7, rfl, ?_⟩, ((hat5'.same s8)).mono st8⟩ .nil)
            rw [List.map_append]
            exact st8 _ _ (s78 _ _ hq7)
          · have := (List.getElem?_eq_some_iff.mp hkid).1
            omega
        · rintro σ' H5 ⟨vs5, v6', rfl, s5, hL5, hv5, il⟩
          rw [List.length_map, pl, List.take_length] at hv5
          have tk : Plan.total (k.2.kids.map fun z => (k.1 ++ [(z.1 : Int)], z.2)) + 1 = k.2.parts := by
            have := Plan.kids_parts k.2
            unfold Plan.total
            rw [List.map_map]
            show (k.2.kids.map fun z => z.2.parts).sum + 1 = _
            omega
          refine ⟨Plan.total (ks' ++ k.2.kids.map fun z => (k.1 ++ [(z.1 : Int)], z.2)), by rw [total_app, total_app]; omega, vs5, _, c + 1, _, _, _, rfl, ((Sb.of (sHD.trans s34)).trans s5).same hLn, hL5, hv5, ?_, rfl, by omega, ?_⟩
          · intro z hz
            rcases List.mem_append.mp hz with hz | hz
            · exact hk z (List.mem_append.mpr (.inl hz))
            · obtain ⟨kid, hm, rfl⟩ := List.mem_map.mp hz
              have h1 := Plan.kids_depth k.2 kid hm
              refine ⟨?_, Plan.kids_ok k.2 kok kid hm⟩
              show (k.1 ++ [(kid.1 : Int)]).length + kid.2.depth ≤ 16
              rw [List.length_append]
              simp
              omega
          · rw [total_app]
            omega
  · refine ⟨fun m σ H' => σ = [some (.ref a), some (.ref f), some (.ref L), some (.int 0), none, none, none] ∧ H' = upd (upd (upd H t0 (.tup [])) t1 (.tup [.ref t0, .ref a])) L (.lst [.ref t1]), ⟨0, rfl, rfl⟩, ?_⟩
    rintro m σ H' ⟨rfl, rfl⟩
    refine ⟨_, rfl, by show 0 ≤ sizeLine; decide, fun e ne => ?_⟩
    have s2 := same_new ne (.lst [])
    have sE := sC.trans s2
    have hl2 := s2 _ _ (upd_same (H := upd (upd H t0 (.tup [])) t1 (.tup [.ref t0, .ref a])) (a := L) (o := .lst [.ref t1]))
    have dB : Dp K _ (.ref a) (.tuple [.str "end", Plan.fin.data]) := .tup (SqT.of (sE _ _ ha)) (.cons (.str _) (.cons (hx.same sE).dp .nil))
    refine ⟨.list [.tuple [.tuple [], .tuple [.str "end", Plan.fin.data]]], .list [], .lst (SqL.of hl2) (.cons (.tup (SqT.of (s2 _ _ at1)) (.cons (.tup (SqT.of (s2 _ _ at0)) .nil) (.cons dB .nil))) .nil), .lst (SqL.of upd_same) .nil, by decide +kernel, shaped_nil, _, rfl, ?_⟩
    rw [show PyData.eqv (.list [.tuple [.tuple [], .tuple [.str "end", Plan.fin.data]]]) (.list []) = false by decide +kernel]
    refine iteT ⟨fun _ _ => False, fun _ _ z => z.elim, ?_⟩
    refine ⟨_, rfl, .inl ⟨rfl, _, SqL.of hl2⟩, L, _, .ref t1, rfl, rfl, hl2, rfl, ?_⟩
    have sD : Sb L H (upd (upd (upd (upd (upd H t0 (.tup [])) t1 (.tup [.ref t0, .ref a])) L (.lst [.ref t1])) e (.lst [])) L (.lst [])) := (Sb.of sE).upd
    have sHD := sD.same hLn
    have st1 := (upd_ne (o := .lst []) ntL).trans (s2 _ _ at1)
    have st0 := (upd_ne (o := .lst []) nt0L).trans (s2 _ _ at0)
    refine ⟨t1, _, rfl, SqT.of st1, rfl, _, _, rfl, _, _, rfl, rfl, ?_⟩
    refine ⟨_, rfl, t0, _, rfl, .inr (SqT.of st0), _, _, rfl, rfl, _, _, rfl, rfl, _, rfl, iteF ?_⟩
    refine ⟨_, rfl, _, _, rfl, rfl, ?_⟩
    refine ⟨_, rfl, _, _, rfl, rfl, _, rfl, iteF ?_⟩
    refine ⟨rfl, _, rfl, sHD _ _ code, _, rfl, _, rfl, vu, .ref a, us, rfl, hu.same sHD, .inr ⟨a, x, rfl, sHD _ _ ha, fun H3 bv s3 eb => ⟨false, eb, iteT ?_⟩⟩⟩
    refine ⟨_, rfl, fun d nd => ?_⟩
    have sH3 := sHD.trans s3
    exact q _ d t0 (same_upd sH3 (sH3.free nd)) (sH3.free nd) upd_same ((upd_ne (ne_of_none (s3 _ _ st0) nd)).trans (s3 _ _ st0))
end
end K40
end
section
set_option Elab.async false
set_option linter.all false
set_option autoImplicit false
set_option maxRecDepth 100000
set_option maxHeartbeats 4000000
/-! need_plan. -/
namespace K40
open PySem PySem.Spec PyProof.Rows L2 LamX NdefX
structure Wt (K : PySem.W.Frag) (mg : Str → Option Value) extends We K mg where
  cN : Addr
  pN : Addr
  cR : Addr
  pR : Addr
  codeN : needPlan.fd.code = .ref cN
  codeR : wRefusedRight.fd.code = .ref cR
  ne : pN ≠ pR
/-- the tables of code objects -/
def T0 {K : PySem.W.Frag} {mg : Str → Option Value} (T : Wt K mg) : List (Addr × Str) := [(T.pN, "need_plan.<locals>.<lambda>"), (T.pR, "_law_refused_right.<locals>.<lambda>")]
/-- an error is raised; tables may have grown -/
abbrev Rg (TT : List (Addr × Str)) (C : Addr) (f : Str) (x : V) (H : Hp) (E : XK) : Prop := ∀ H' d, Gr TT [] H H' → H' d = some (.xd [(f, x)]) → E (.ref C) (some d) H'
/-- units and a plan that are well, or an error -/
def npP (TT : List (Addr × Str)) (CU CP : Addr) (v1 v2 : V) (H : Hp) (ok : Prop) (E : XK) : Prop := ∃ us, TI H v1 us ∧
  ((3 < us.length ∧ us.length ≤ 1000 ∧ Rg TT CU "value" v1 H E) ∨
   (UOk us ∧ ∃ p : Plan, p.At H v2 ∧ p.Ok (us.length + 1) (10 ^ 60) ∧ p.depth ≤ 16 ∧ p.parts ≤ 60 ∧ ok) ∨
   (UOk us ∧ ∃ a x, v2 = .ref a ∧ H a = some (.tup [.str "end", x]) ∧ Plan.fin.At H x ∧ ∀ H' d t, Gr TT [] H H' → H' d = some (.xd [("path", .ref t)]) → H' t = some (.tup []) → E (.ref CP) (some d) H'))
def spNeedPlan (TT : List (Addr × Str)) (CU CP : Addr) : Sp := fun vs H Q E => ∃ v1 v2, vs = [v1, v2] ∧ Tabs TT H ∧ npP TT CU CP v1 v2 H (∀ H', Gr TT [] H H' → Q v2 H') E
/-- the call of need_forms with the lambda -/
def tNf (TT : List (Addr × Str)) (C : Addr) (E : XK) : TE := fun σ H Q => ∃ vu v, σ = [some vu, some v] ∧ Tabs TT H ∧ ∀ H1, Gr TT [] H H1 → nfP C v vu H1 Q E
section
variable {P : Program} {w : World} {K : PySem.W.Frag} {mg : Str → Option Value} {base : Heap}
theorem pe_nf (T : Wt K mg) (TB : TabB base mg T.cN T.pN) {cdv : Value} (hcdv : cdv = .ref T.cN) {A : Around} {outer : List Env} {s : Shared} {H : Hp} {E : XK} {params : Arguments} {body : Expr} {scope : Scope} {p py lpos pos : Pos}
    (hr : Room 9 (A.deeper (envOfC "need_plan" (defScope sNeedPlan) s.heap.objs.size T.needPlan.f cdv)))
    (LS : NScope ["here", "units"] ["here"] ["units"] scope) (nb : ndefB (defScope sNeedPlan) scope ["units"] = true)
    (hdef : ∀ env, defaultsOf params env = ([], [])) (bind : ∀ (q : Str) (cl : List (Str × Addr)) (pm cv ctv x : Value), bindArgs (PySem.W.kla_fn "<lambda>" q params body scope cl pm cv ctv) ⟨[x], []⟩ = pure [(("here" : Str), x)])
    (walk : ∀ (F : NF) (f : Addr) (A : Around) (outer : List Env) (s : Shared) (H : Hp), F.scope = scope → Room 4 (A.deeper (envF F f s.heap.objs.size)) → PE (ncx CX0 P w K mg base ["here", "units"] F f A outer s H E0) body (tCall spIsStep [] E0 (tCons (tVar 1) (tCons (tVar 0) tNil)))) :
    PE (cxOf (L2.CX P w) P w K mg base ["units", "value"] "need_plan" (defScope sNeedPlan) T.needPlan.f cdv A outer s H E) (.Call (.Name "need_forms" p) [.Name "value" py, .Lambda params body scope lpos] [] pos) (tNf (T0 T) T.badPlan.C E) := by
  refine ⟨fun pins s1 σ H1 Q I h => ?_⟩
  obtain ⟨vu, v, rfl, tabs, k⟩ := h
  refine wpAny_Call_Name_kw (ld_glob I rfl T.needForms.g ?_ (by decide))
  refine PySem.W.callWith_K (h₀ := base) I.ok.mod.kin T.needForms.F.kp ?_ (by rfl) (by rfl)
  have hv := (pv (X := cxOf (L2.CX P w) P w K mg base ["units", "value"] "need_plan" (defScope sNeedPlan) T.needPlan.f cdv A outer s H E) (pos := py) 1).run pins s1 _ H1 (fun x H2 => x = v ∧ H2 = H1) I ⟨v, rfl, rfl, rfl⟩
  refine Calls.spliced_cons (thn hv fun u s2 ⟨x, H2, I2, rv, ex, eH⟩ => ?_)
  subst ex eH
  refine Calls.spliced_cons (lam_make2 (T := T0 T) (c := T.cN) (P := T.pN) I2 TB hcdv (by show _ ∈ T0 T; exact List.mem_cons_self ..) (fun q hq e => ?_) tabs (hdef _) (fun y hy e => ?_) fun f c' pm ctv H3 s3 I3 eN T3 hf hfn hfr hco => ?_)
  · have hq' : q ∈ [(T.pN, ("need_plan.<locals>.<lambda>" : Str)), (T.pR, "_law_refused_right.<locals>.<lambda>")] := hq
    simp only [List.mem_cons, List.not_mem_nil, or_false] at hq'
    rcases hq' with rfl | rfl
    · rfl
    · exact absurd e.symm T.ne
  · exact (ndef_free nb y hy e).elim (fun z => I2.ok.has _ (.inl z)) fun z => I2.ok.has _ (.inr z)
  · refine Calls.spliced_nil ⟨I3.kIn, ?_⟩
    show wpAny _ _ (call (.ref T.needForms.f) [u, .ref f]) _ _ _
    have G3 : Gr (T0 T) [] H2 H3 := ⟨fun b o e n _ => eN b o e n, fun _ => T3⟩
    have caps := Caps.made (X := cxOf (L2.CX P w) P w K mg base ["units", "value"] "need_plan" (defScope sNeedPlan) T.needPlan.f cdv A outer s H E) (fr := ["units"]) (js := [0]) I3.ok (ndef_free nb) (ndef_fr nb) rfl
    have C := cells_of I3 caps
    have cf : ∀ y c, (cloFrom (envOfC "need_plan" (defScope sNeedPlan) s.heap.objs.size T.needPlan.f cdv).cells scope.names []).lookup y = some c → c ∉ frs (cxOf (L2.CX P w) P w K mg base ["units", "value"] "need_plan" (defScope sNeedPlan) T.needPlan.f cdv A outer s H E).stack := by
      intro y c e m
      have e2 := caps.sub y c e
      have e3 := I3.ok.cab y c rfl e2
      rcases List.mem_cons.mp (I3.stkSub c m) with q | q
      · exact I3.cne y c e2 q
      · obtain ⟨_, o, ho, _⟩ := I3.ok.funs.mem q
        exact Nat.lt_irrefl _ (Nat.lt_of_lt_of_le (Heap.lt_size ho) e3)
    have run := run_needForms T.toWe (F := ⟨"<lambda>", _, params, [], scope, _, c'⟩) (hr.mono (by decide)) I3.env0 rv LS hf hfn hfr hco (bind _ _ _ _ _) C cf (fun A outer s H hr' => walk _ _ A outer s H rfl hr') (k H3 G3)
    refine wpAny_call (codeAny_mono run fun r s' hq => ?_)
    cases r with
    | error e => exact passes_call (takes_of rfl rfl rfl rfl) (fun _ _ _ _ z => z) pins _ H3 s3 e s' I3 hq
    | ok fl =>
      cases fl with
      | ret u => exact I3.after hq
      | next => exact False.elim hq
      | brk => exact False.elim hq
      | cont => exact False.elim hq
theorem scNeedPlan : FnScope ["units", "value"] ["units", "value"] (defScope sNeedPlan) := ⟨rfl, rfl, rfl, by decide +kernel, rfl, by decide +kernel, by decide +kernel⟩
theorem ok_needPlan (T : Wt K mg) (TB : TabB base mg T.cN T.pN) : FnOk P w K mg base (L2.CX P w) 10 T.needPlan.f T.needPlan.fd ["units", "value"] (spNeedPlan (T0 T) T.badUnits.C T.badPlan.C) := by
  have GNeedUnits := ok_needUnits (P := P) (w := w) (base := base) T.toWe
  have GIsStep := ok_isStep (P := P) (w := w) (base := base) T.toWd
  obtain ⟨oc, od, kV, doc, pmv, an, cdv, ct, osl, efd, lk, hcd⟩ := T.needPlan.F.ex
  have hcdv : cdv = .ref T.cN := by
    have e := T.codeN
    rw [efd] at e
    exact e
  rw [efd] at lk ⊢
  refine fn_of lk hcd scNeedPlan (fun vs H Q E h => ?_) (fun A outer s H vs Q E hr h => ⟨_, pss_cons (ps_expr (pe_call GNeedUnits (hr.mono (by decide)) rfl T.needUnits.g T.needUnits.F.kp T.needUnits.b .nil (passes_call (takes_of rfl rfl rfl rfl) (fun _ _ _ _ z => z)) (pa_cons (pv 0) pa_nil)))
    (pss_cons (ps_expr (pe_nf T TB hcdv hr (nscope_by (by decide +kernel)) (by decide +kernel) (fun _ => rfl) (fun _ _ _ _ _ _ => rfl) (fun F f A outer s H e hr' => pe_call GIsStep (hr'.mono (by decide)) (by show F.scope.names.lookup _ = _; rw [e]; rfl) T.isStep.g T.isStep.F.kp T.isStep.b .nil pass0 (pa_cons (pv 1 (hv := by show F.scope.names.lookup _ = _ ∨ F.scope.names.lookup _ = _ ∨ F.scope.names.lookup _ = _; rw [e]; first | exact .inl rfl | exact .inr (.inl rfl) | exact .inr (.inr rfl))) (pa_cons (pv 0 (hv := by show F.scope.names.lookup _ = _ ∨ F.scope.names.lookup _ = _ ∨ F.scope.names.lookup _ = _; rw [e]; first | exact .inl rfl | exact .inr (.inl rfl) | exact .inr (.inr rfl))) pa_nil)))))
    (pss_one (ps_ret (pv 1)))), ?_⟩)
  · obtain ⟨v1, v2, rfl, _⟩ := h
    rfl
  obtain ⟨v1, v2, rfl, tabs, us, hu, h⟩ := h
  rcases h with ⟨lo, hi, k⟩ | ⟨uo, p, hp, ok, hd, hpt, k⟩ | ⟨uo, a, x, rfl, ha, hx, k⟩
  · exact ⟨_, rfl, v1, us, rfl, hu, .inr ⟨lo, hi, fun H' d s1 _ hd => k H' d (.of s1) hd⟩⟩
  · refine ⟨_, rfl, v1, us, rfl, hu, .inl ⟨uo, ?_⟩⟩
    refine ⟨v1, v2, rfl, tabs, fun H1 g1 => ⟨us, hu.mono (.gr g1), .inl ⟨p, hp.mono (.gr g1), ok, hd, hpt, fun H2 s2 => ?_⟩⟩⟩
    exact ⟨_, rfl, k _ (g1.trans (.of s2))⟩
  · refine ⟨_, rfl, v1, us, rfl, hu, .inl ⟨uo, ?_⟩⟩
    exact ⟨v1, .ref a, rfl, tabs, fun H1 g1 => ⟨us, hu.mono (.gr g1), .inr ⟨a, x, rfl, g1.tup ha, hx.mono (.gr g1), fun H2 d t s2 nd hd ht => k H2 d t (g1.trans (.of s2)) hd ht⟩⟩⟩
end
end K40
end
section
set_option Elab.async false
set_option linter.all false
set_option autoImplicit false
set_option maxRecDepth 100000
set_option maxHeartbeats 4000000
/-! lives, plan_stocks, plan_lacks, still_asked. -/
namespace K40
open PySem PySem.Spec PyProof.Rows L2 LamX
def lacksM (us : List Int) (p : Plan) (s : Row) : Option (List Row) := (least us p).bind fun L => (kept (L.map fun o => up us (zsub o (stair us s)))).map (rowsOf us)
def askedM (us : List Int) (p : Plan) (s : Row) : Option (List Row) := (least us p).map fun L => rowsOf us (greatest ((L.filter fun o => within o (stair us s)).map fun o => goD us (zsub (stair us s) o)))
theorem great_length_go : ∀ (ss found : List Row), (ss.foldl greatStep found).length ≤ found.length + ss.length
  | [], found => by simp
  | s :: ss, found => by
    have h1 := great_length_go ss (greatStep found s)
    have h2 : (greatStep found s).length ≤ found.length + 1 := by
      unfold greatStep
      split
      · simp
      · omega
    simp only [List.foldl_cons, List.length_cons]
    omega
theorem great_length (ss : List Row) : (greatest ss).length ≤ ss.length := by
  have h1 := great_length_go (unlike ss).reverse []
  have h2 := unlike_length ss
  unfold greatest
  simp only [List.length_nil, List.length_reverse] at h1
  omega
/-- units, plan and stock that are well -/
structure GoodP (us : List Int) (p : Plan) : Prop where
  uo : UOk us
  ok : p.Ok (us.length + 1) (10 ^ 60)
  deep : p.depth ≤ 16
  parts : p.parts ≤ 60
def GoodR (us : List Int) (s : Row) : Prop := s.length = us.length + 1 ∧ InM s
def spLives (TT : List (Addr × Str)) : Sp := fun vs H Q _ => ∃ v1 v2 v3 us p s, vs = [v1, v2, v3] ∧ Tabs TT H ∧ TI H v1 us ∧ Plan.At H p v2 ∧ TI H v3 s ∧ GoodP us p ∧ GoodR us s ∧ ∀ H', Gr TT [] H H' → Q (.bl (livesS us p (stair us s))) H'
def spStocks (TT : List (Addr × Str)) : Sp := fun vs H Q _ => ∃ v1 v2 us p L, vs = [v1, v2] ∧ Tabs TT H ∧ TI H v1 us ∧ Plan.At H p v2 ∧ GoodP us p ∧ least us p = some L ∧ ∀ H' v, Gr TT [] H H' → TR H' v (rowsOf us L) → Q v H'
/-- what still_asked and plan_lacks do -/
def spTwo (M : List Int → Plan → Row → Option (List Row)) (TT : List (Addr × Str)) (CU CP CR CG : Addr) : Sp := fun vs H Q E => ∃ v1 v2 v3, vs = [v1, v2, v3] ∧ Tabs TT H ∧ ∃ us, TI H v1 us ∧
  ((3 < us.length ∧ us.length ≤ 1000 ∧ Rg TT CU "value" v1 H E) ∨
   (UOk us ∧ ∃ a x, v2 = .ref a ∧ H a = some (.tup [.str "end", x]) ∧ Plan.fin.At H x ∧ ∀ H' d t, Gr TT [] H H' → H' d = some (.xd [("path", .ref t)]) → H' t = some (.tup []) → E (.ref CP) (some d) H') ∨
   (∃ p s, Plan.At H p v2 ∧ TI H v3 s ∧ GoodP us p ∧ ((s.length ≠ us.length + 1 ∧ Rg TT CR "value" v3 H E) ∨
     (GoodR us s ∧ (∀ R, M us p s = some R → ∀ H' v, Gr TT [] H H' → TR H' v R → Q v H') ∧ (M us p s = none → Rg TT CG "most" (.int 40) H E)))))
theorem spTwo_len {M : List Int → Plan → Row → Option (List Row)} {TT : List (Addr × Str)} {CU CP CR CG : Addr} : ∀ vs H Q E, spTwo M TT CU CP CR CG vs H Q E → vs.length = 3 := fun vs H Q E h => by
  obtain ⟨v1, v2, v3, rfl, _⟩ := h
  rfl
theorem Rg.later {TT : List (Addr × Str)} {C : Addr} {f : Str} {x : V} {H H1 : Hp} {E : XK} (k : Rg TT C f x H E) (g : Gr TT [] H H1) : Rg TT C f x H1 E := fun H' d g2 hd => k H' d (g.trans g2) hd
theorem Rg.too {TT : List (Addr × Str)} {C : Addr} {H : Hp} {E : XK} (k : Rg TT C "most" (.int 40) H E) : TooG C H E := fun H' d s _ hd => k H' d (.of s) hd
theorem Rg.rs {TT : List (Addr × Str)} {C : Addr} {f : Str} {x : V} {H : Hp} {E : XK} (k : Rg TT C f x H E) : Rs C f x H E := fun H' d s _ hd => k H' d (.of s) hd
section
variable {P : Program} {w : World} {K : PySem.W.Frag} {mg : Str → Option Value} {base : Heap}
theorem scLives : FnScope ["units", "plan", "stock"] ["units", "plan", "stock"] (defScope sLives) := ⟨rfl, rfl, rfl, by decide +kernel, rfl, by decide +kernel, by decide +kernel⟩
theorem ok_lives (T : Wt K mg) (TB : TabB base mg T.cN T.pN) : FnOk P w K mg base (L2.CX P w) 18 T.lives.f T.lives.fd ["units", "plan", "stock"] (spLives (T0 T)) := by
  have GNeedPlan := ok_needPlan (P := P) (w := w) T TB
  have GNeedRow := ok_needRow (P := P) (w := w) (base := base) T.toWe
  have GLivesFrom := ok_livesFrom (P := P) (w := w) (base := base) T.toWd 16
  have GStairFrom := ok_stairFrom (P := P) (w := w) (base := base) T.toWd
  refine T.lives.F.okX scLives (fun vs H Q E h => ?_) (fun cdv A outer s H vs Q E hr h => ⟨_, (pss_cons (ps_expr (pe_call GNeedPlan (hr.mono (by first | decide | omega)) rfl T.needPlan.g T.needPlan.F.kp T.needPlan.b .nil (passes_call (takes_of rfl rfl rfl rfl) (fun _ _ _ _ z => z)) (pa_cons (pv 0) (pa_cons (pv 1) pa_nil))))
 (pss_cons (ps_expr (pe_call GNeedRow (hr.mono (by first | decide | omega)) rfl T.needRow.g T.needRow.F.kp T.needRow.b .nil (passes_call (takes_of rfl rfl rfl rfl) (fun _ _ _ _ z => z)) (pa_cons (pv 0) (pa_cons (pv 2) pa_nil))))
 (pss_one (ps_ret (pe_call GLivesFrom (hr.mono (by first | decide | omega)) rfl T.livesFrom.g T.livesFrom.F.kp T.livesFrom.b .nil pass0 (pa_cons (pv 0) (pa_cons (pv 1) (pa_cons (pe_call GStairFrom (hr.mono (by first | decide | omega)) rfl T.stairFrom.g T.stairFrom.F.kp T.stairFrom.b .nil pass0 (pa_cons (pv 0) (pa_cons (pv 2) pa_nil))) pa_nil)))))))), ?_⟩)
  · obtain ⟨v1, v2, v3, us, p, s, rfl, _⟩ := h
    rfl
  obtain ⟨v1, v2, v3, us, p, st, rfl, tabs, hu, hp, hs, gp, gr, k⟩ := h
  refine ⟨_, rfl, _, rfl, v1, v2, rfl, tabs, us, hu, .inr (.inl ⟨gp.uo, p, hp, gp.ok, gp.deep, gp.parts, fun H1 g1 => ?_⟩)⟩
  have hu1 := hu.mono (.gr g1)
  have hs1 := hs.mono (.gr g1)
  refine ⟨_, rfl, _, rfl, v1, v3, us, st, rfl, hu1, hs1, gp.uo, .inl ⟨gr.1, gr.2, ?_⟩⟩
  refine ⟨_, rfl, _, rfl, _, rfl, _, rfl, v1, v3, us, st, rfl, hu1, hs1, gp.uo, gr.1, fun H2 v4 s2 h4 => ?_⟩
  refine ⟨v1, v2, v4, us, p, stair us st, _, rfl, hu1.same s2, (hp.mono (.gr g1)).same s2, h4, gp.uo, gp.ok, stair_length gr.1, gp.deep, fun H3 v5 s3 e5 => ?_⟩
  rw [e5]
  exact k _ (g1.trans (.of (s2.trans s3)))
theorem scPlanStocks : FnScope ["units", "plan"] ["units", "plan"] (defScope sPlanStocks) := ⟨rfl, rfl, rfl, by decide +kernel, rfl, by decide +kernel, by decide +kernel⟩
theorem ok_planStocks (T : Wt K mg) (TB : TabB base mg T.cN T.pN) : FnOk P w K mg base (L2.CX P w) 22 T.planStocks.f T.planStocks.fd ["units", "plan"] (spStocks (T0 T)) := by
  have GNeedPlan := ok_needPlan (P := P) (w := w) T TB
  have GLeastStairs := ok_leastStairs (P := P) (w := w) (base := base) T.toWe 16
  have GRowsOf := ok_rowsOf (P := P) (w := w) (base := base) T.toWd
  refine T.planStocks.F.okX scPlanStocks (fun vs H Q E h => ?_) (fun cdv A outer s H vs Q E hr h => ⟨_, (pss_cons (ps_expr (pe_call GNeedPlan (hr.mono (by first | decide | omega)) rfl T.needPlan.g T.needPlan.F.kp T.needPlan.b .nil (passes_call (takes_of rfl rfl rfl rfl) (fun _ _ _ _ z => z)) (pa_cons (pv 0) (pa_cons (pv 1) pa_nil))))
 (pss_one (ps_ret (pe_call GRowsOf (hr.mono (by first | decide | omega)) rfl T.rowsOf.g T.rowsOf.F.kp T.rowsOf.b .nil pass0 (pa_cons (pv 0) (pa_cons (pe_call GLeastStairs (hr.mono (by first | decide | omega)) rfl T.leastStairs.g T.leastStairs.F.kp T.leastStairs.b .nil (passes_call (takes_of rfl rfl rfl rfl) (fun _ _ _ _ z => z)) (pa_cons (pv 0) (pa_cons (pv 1) pa_nil))) pa_nil)))))), ?_⟩)
  · obtain ⟨v1, v2, us, p, L, rfl, _⟩ := h
    rfl
  obtain ⟨v1, v2, us, p, L, rfl, tabs, hu, hp, gp, hL, k⟩ := h
  refine ⟨_, rfl, _, rfl, v1, v2, rfl, tabs, us, hu, .inr (.inl ⟨gp.uo, p, hp, gp.ok, gp.deep, gp.parts, fun H1 g1 => ?_⟩)⟩
  have hu1 := hu.mono (.gr g1)
  obtain ⟨ln, lz⟩ := least_len us p _ L gp.ok hL
  refine ⟨_, rfl, _, rfl, _, rfl, v1, v2, us, p, _, rfl, hu1, hp.mono (.gr g1), gp.uo, gp.ok, gp.deep, fun r e H2 v s2 nl => ?_, fun e => by rw [hL] at e; cases e⟩
  rw [hL] at e
  cases e
  exact ⟨v1, v, us, L, rfl, hu1.same s2, nl.lr, gp.uo, ln, by omega, fun H3 v3 s3 nt => k H3 v3 (g1.trans (.of (s2.trans s3))) nt.tr⟩
theorem scPlanLacks : FnScope ["units", "plan", "stock", "stair", "one"] ["units", "plan", "stock"] (defScope sPlanLacks) := ⟨rfl, rfl, rfl, by decide +kernel, rfl, by decide +kernel, by decide +kernel⟩
theorem ok_planLacks (T : Wt K mg) (TB : TabB base mg T.cN T.pN) : FnOk P w K mg base (L2.CX P w) 22 T.planLacks.f T.planLacks.fd ["units", "plan", "stock"] (spTwo lacksM (T0 T) T.badUnits.C T.badPlan.C T.badRow.C T.tooGreat.C) := by
  have GNeedPlan := ok_needPlan (P := P) (w := w) T TB
  have GNeedRow := ok_needRow (P := P) (w := w) (base := base) T.toWe
  have GStairFrom := ok_stairFrom (P := P) (w := w) (base := base) T.toWd
  have GUpStair := ok_upStair (P := P) (w := w) (base := base) T.toWd
  have GLess := ok_less (P := P) (w := w) (base := base) T.toWd
  have GLeastStairs := ok_leastStairs (P := P) (w := w) (base := base) T.toWe 16
  have GKept' := fun n => ok_kept (P := P) (w := w) (base := base) (n := n) T.toWe
  have GRowsOf := ok_rowsOf (P := P) (w := w) (base := base) T.toWd
  refine T.planLacks.F.okX scPlanLacks spTwo_len (fun cdv A outer s H vs Q E hr h => ?_)
  obtain ⟨v1, v2, v3, rfl, tabs, us, hu, h⟩ := h
  have GKept := GKept' (us.length + 1)
  refine ⟨_, (pss_cons (ps_expr (pe_call GNeedPlan (hr.mono (by first | decide | omega)) rfl T.needPlan.g T.needPlan.F.kp T.needPlan.b .nil (passes_call (takes_of rfl rfl rfl rfl) (fun _ _ _ _ z => z)) (pa_cons (pv 0) (pa_cons (pv 1) pa_nil))))
 (pss_cons (ps_expr (pe_call GNeedRow (hr.mono (by first | decide | omega)) rfl T.needRow.g T.needRow.F.kp T.needRow.b .nil (passes_call (takes_of rfl rfl rfl rfl) (fun _ _ _ _ z => z)) (pa_cons (pv 0) (pa_cons (pv 2) pa_nil))))
 (pss_cons (ps_set (i := 3) scPlanLacks.nd rfl (.inr rfl) (pe_call GStairFrom (hr.mono (by first | decide | omega)) rfl T.stairFrom.g T.stairFrom.F.kp T.stairFrom.b .nil pass0 (pa_cons (pv 0) (pa_cons (pv 2) pa_nil))))
 (pss_one (ps_ret (pe_call GRowsOf (hr.mono (by first | decide | omega)) rfl T.rowsOf.g T.rowsOf.F.kp T.rowsOf.b .nil pass0 (pa_cons (pv 0) (pa_cons (pe_call GKept (hr.mono (by first | decide | omega)) rfl T.kept.g T.kept.F.kp T.kept.b .nil (passes_call (takes_of rfl rfl rfl rfl) (fun _ _ _ _ z => z)) (pa_cons (pe_lc (g := (gName 4)) (own := [("one", 4)]) rfl scPlanLacks.nd  (pi_list (pe_call GLeastStairs (hr.mono (by first | decide | omega)) rfl T.leastStairs.g T.leastStairs.F.kp T.leastStairs.b .nil (passes_call (takes_of rfl rfl rfl rfl) (fun _ _ _ _ z => z)) (pa_cons (pv 0) (pa_cons (pv 1) pa_nil)))) (blkOk_by (N := ["units", "plan", "stock", "stair", "one"]) (sc := defScope sPlanLacks) (by decide +kernel)) (fun _ _ _ _ _ => (pg_name (i := 4) scPlanLacks.nd rfl (.inl rfl))) (fun _ _ _ _ _ => pts_nil) (fun _ _ _ _ _ => (pe_call GUpStair (hr.mono (by first | decide | omega)) rfl T.upStair.g T.upStair.F.kp T.upStair.b .nil pass0 (pa_cons (pv 0) (pa_cons (pe_call GLess (hr.mono (by first | decide | omega)) rfl T.less.g T.less.F.kp T.less.b .nil pass0 (pa_cons (pv 4) (pa_cons (pv 3) pa_nil))) pa_nil))))) pa_nil)) pa_nil)))))))), ?_⟩
  rcases h with ⟨lo, hi, k⟩ | ⟨uo, a, x, rfl, ha, hx, k⟩ | ⟨p, st, hp, hs, gp, h⟩
  · exact ⟨_, rfl, _, rfl, v1, v2, rfl, tabs, us, hu, .inl ⟨lo, hi, k⟩⟩
  · exact ⟨_, rfl, _, rfl, v1, .ref a, rfl, tabs, us, hu, .inr (.inr ⟨uo, a, x, rfl, ha, hx, k⟩)⟩
  refine ⟨_, rfl, _, rfl, v1, v2, rfl, tabs, us, hu, .inr (.inl ⟨gp.uo, p, hp, gp.ok, gp.deep, gp.parts, fun H1 g1 => ?_⟩)⟩
  have hu1 := hu.mono (.gr g1)
  have hs1 := hs.mono (.gr g1)
  rcases h with ⟨nr, k⟩ | ⟨gr, kS, kN⟩
  · exact ⟨_, rfl, _, rfl, v1, v3, us, st, rfl, hu1, hs1, gp.uo, .inr ⟨nr, (k.later g1).rs⟩⟩
  refine ⟨_, rfl, _, rfl, v1, v3, us, st, rfl, hu1, hs1, gp.uo, .inl ⟨gr.1, gr.2, ?_⟩⟩
  refine ⟨_, rfl, _, rfl, v1, v3, us, st, rfl, hu1, hs1, gp.uo, gr.1, fun H2 v4 s2 h4 => ?_⟩
  have sl := stair_length (us := us) gr.1
  have g2 : Gr (T0 T) [] H H2 := g1.trans (.of s2)
  have hu2 := hu1.same s2
  have hp2 := (hp.mono (.gr g1)).same s2
  have hz := gp.uo.len
  cases hL : least us p with
  | none =>
    have nn : lacksM us p st = none := by
      unfold lacksM
      rw [hL]
      rfl
    exact ⟨_, rfl, _, rfl, _, rfl, v1, v2, us, p, _, rfl, hu2, hp2, gp.uo, gp.ok, gp.deep, fun r e => (by rw [hL] at e; cases e), fun _ => ((kN nn).later g2).too⟩
  | some L =>
    obtain ⟨ln, lz⟩ := least_len us p _ L gp.ok hL
    refine ⟨_, rfl, ?_⟩
    dsimp only [tCall, tCons, tNil]
    refine lcR (K := K) (i := 4) (rs := L) (fun _ => true) (fun o => up us (zsub o (stair us st))) (by omega) (fun _ => rfl) rfl ?_ (fun v r H' R _ _ _ z => z H' (Same.refl _)) ?_ ?_
    · intro R z
      refine ⟨_, rfl, _, rfl, v1, v2, us, p, _, rfl, hu2, hp2, gp.uo, gp.ok, gp.deep, fun r e => ?_, fun e => by rw [hL] at e; cases e⟩
      rw [hL] at e
      cases e
      rintro H3 v s3 ⟨l, vs, rfl, _, hl, hr3⟩
      exact z H3 l vs s3 hl hr3
    · intro v r H' R hm _ e t z
      have rl := ln r hm
      refine ⟨_, rfl, _, rfl, _, rfl, _, _, r, stair us st, rfl, t, h4.same e, by omega, fun H4 v5 s4 t5 => ?_⟩
      refine ⟨_, _, us, _, rfl, (hu2.same e).same s4, t5, gp.uo, ?_, fun H5 v6 s5 t6 => z H5 v6 (s4.trans s5) t6⟩
      show (zsub r (stair us st)).length = _
      rw [zsub_length (by omega), rl]
    · intro D H' vs' e hD hd hr'
      rw [filter_true] at hr'
      have g3 : Gr (T0 T) [] H H' := g2.trans (.of e)
      have hlen : Len (us.length + 1) (L.map fun o => up us (zsub o (stair us st))) := by
        intro s hs
        obtain ⟨o, ho, rfl⟩ := List.mem_map.mp hs
        have := ln o ho
        exact up_length (by rw [zsub_length (by omega), this])
      refine ⟨.ref D, _, rfl, ⟨D, vs', rfl, hd, hr'⟩, hlen, by omega, by omega, by rw [List.length_map]; omega, fun out ho H4 v5 s4 nl => ?_, fun ho => ?_⟩
      · have mm : lacksM us p st = some (rowsOf us out) := by
          unfold lacksM
          rw [hL]
          show (kept _).map _ = _
          rw [ho]
          rfl
        have lo := kept_length ho
        exact ⟨v1, v5, us, out, rfl, (hu2.same e).same s4, nl.lr, gp.uo, fun s hs => hlen s (kept_mem ho hs), by omega, fun H5 v6 s5 nt => kS _ mm H5 v6 (g3.trans (.of (s4.trans s5))) nt.tr⟩
      · have nn : lacksM us p st = none := by
          unfold lacksM
          rw [hL]
          show (kept _).map _ = _
          rw [ho]
          rfl
        exact ((kN nn).later g3).too
theorem scStillAsked : FnScope ["units", "plan", "stock", "stair", "inner", "one"] ["units", "plan", "stock"] (defScope sStillAsked) := ⟨rfl, rfl, rfl, by decide +kernel, rfl, by decide +kernel, by decide +kernel⟩
theorem ok_stillAsked (T : Wt K mg) (TB : TabB base mg T.cN T.pN) : FnOk P w K mg base (L2.CX P w) 22 T.stillAsked.f T.stillAsked.fd ["units", "plan", "stock"] (spTwo askedM (T0 T) T.badUnits.C T.badPlan.C T.badRow.C T.tooGreat.C) := by
  have GNeedPlan := ok_needPlan (P := P) (w := w) T TB
  have GNeedRow := ok_needRow (P := P) (w := w) (base := base) T.toWe
  have GStairFrom := ok_stairFrom (P := P) (w := w) (base := base) T.toWd
  have GDownStair := ok_downStair (P := P) (w := w) (base := base) T.toWd
  have GLess := ok_less (P := P) (w := w) (base := base) T.toWd
  have GLeastStairs := ok_leastStairs (P := P) (w := w) (base := base) T.toWe 16
  have GLiesWithin := ok_liesWithin (P := P) (w := w) (base := base) T.toWd
  have GGreatestOf' := fun n => ok_greatestOf (P := P) (w := w) (base := base) (n := n) T.toWd
  have GRowsOf := ok_rowsOf (P := P) (w := w) (base := base) T.toWd
  refine T.stillAsked.F.okX scStillAsked spTwo_len (fun cdv A outer s H vs Q E hr h => ?_)
  obtain ⟨v1, v2, v3, rfl, tabs, us, hu, h⟩ := h
  have GGreatestOf := GGreatestOf' (us.length + 1)
  refine ⟨_, (pss_cons (ps_expr (pe_call GNeedPlan (hr.mono (by first | decide | omega)) rfl T.needPlan.g T.needPlan.F.kp T.needPlan.b .nil (passes_call (takes_of rfl rfl rfl rfl) (fun _ _ _ _ z => z)) (pa_cons (pv 0) (pa_cons (pv 1) pa_nil))))
 (pss_cons (ps_expr (pe_call GNeedRow (hr.mono (by first | decide | omega)) rfl T.needRow.g T.needRow.F.kp T.needRow.b .nil (passes_call (takes_of rfl rfl rfl rfl) (fun _ _ _ _ z => z)) (pa_cons (pv 0) (pa_cons (pv 2) pa_nil))))
 (pss_cons (ps_set (i := 3) scStillAsked.nd rfl (.inr rfl) (pe_call GStairFrom (hr.mono (by first | decide | omega)) rfl T.stairFrom.g T.stairFrom.F.kp T.stairFrom.b .nil pass0 (pa_cons (pv 0) (pa_cons (pv 2) pa_nil))))
 (pss_cons (ps_setLc (i := 4) (g := (gName 5)) (own := [("one", 5)]) rfl scStillAsked.nd rfl rfl (sw_true rfl rfl rfl (by decide +kernel)) (pi_list (pe_call GLeastStairs (hr.mono (by first | decide | omega)) rfl T.leastStairs.g T.leastStairs.F.kp T.leastStairs.b .nil (passes_call (takes_of rfl rfl rfl rfl) (fun _ _ _ _ z => z)) (pa_cons (pv 0) (pa_cons (pv 1) pa_nil)))) (blkOk_by (N := ["units", "plan", "stock", "stair", "inner", "one"]) (sc := defScope sStillAsked) (by decide +kernel)) (fun _ _ _ _ _ => (pg_name (i := 5) scStillAsked.nd rfl (.inl rfl))) (fun _ _ _ _ _ => pts_one (pt_val (pe_call GLiesWithin (hr.mono (by first | decide | omega)) rfl T.liesWithin.g T.liesWithin.F.kp T.liesWithin.b .nil pass0 (pa_cons (pv 5) (pa_cons (pv 3) pa_nil))))) (fun _ _ _ _ _ => (pv 5)))
 (pss_one (ps_ret (pe_call GRowsOf (hr.mono (by first | decide | omega)) rfl T.rowsOf.g T.rowsOf.F.kp T.rowsOf.b .nil pass0 (pa_cons (pv 0) (pa_cons (pe_call GGreatestOf (hr.mono (by first | decide | omega)) rfl T.greatestOf.g T.greatestOf.F.kp T.greatestOf.b .nil pass0 (pa_cons (pe_lc (g := (gName 5)) (own := [("one", 5)]) rfl scStillAsked.nd  (pi_list (pv 4)) (blkOk_by (N := ["units", "plan", "stock", "stair", "inner", "one"]) (sc := defScope sStillAsked) (by decide +kernel)) (fun _ _ _ _ _ => (pg_name (i := 5) scStillAsked.nd rfl (.inl rfl))) (fun _ _ _ _ _ => pts_nil) (fun _ _ _ _ _ => (pe_call GDownStair (hr.mono (by first | decide | omega)) rfl T.downStair.g T.downStair.F.kp T.downStair.b .nil pass0 (pa_cons (pv 0) (pa_cons (pe_call GLess (hr.mono (by first | decide | omega)) rfl T.less.g T.less.F.kp T.less.b .nil pass0 (pa_cons (pv 3) (pa_cons (pv 5) pa_nil))) pa_nil))))) pa_nil)) pa_nil))))))))), ?_⟩
  rcases h with ⟨lo, hi, k⟩ | ⟨uo, a, x, rfl, ha, hx, k⟩ | ⟨p, st, hp, hs, gp, h⟩
  · exact ⟨_, rfl, _, rfl, v1, v2, rfl, tabs, us, hu, .inl ⟨lo, hi, k⟩⟩
  · exact ⟨_, rfl, _, rfl, v1, .ref a, rfl, tabs, us, hu, .inr (.inr ⟨uo, a, x, rfl, ha, hx, k⟩)⟩
  refine ⟨_, rfl, _, rfl, v1, v2, rfl, tabs, us, hu, .inr (.inl ⟨gp.uo, p, hp, gp.ok, gp.deep, gp.parts, fun H1 g1 => ?_⟩)⟩
  have hu1 := hu.mono (.gr g1)
  have hs1 := hs.mono (.gr g1)
  rcases h with ⟨nr, k⟩ | ⟨gr, kS, kN⟩
  · exact ⟨_, rfl, _, rfl, v1, v3, us, st, rfl, hu1, hs1, gp.uo, .inr ⟨nr, (k.later g1).rs⟩⟩
  refine ⟨_, rfl, _, rfl, v1, v3, us, st, rfl, hu1, hs1, gp.uo, .inl ⟨gr.1, gr.2, ?_⟩⟩
  refine ⟨_, rfl, _, rfl, v1, v3, us, st, rfl, hu1, hs1, gp.uo, gr.1, fun H2 v4 s2 h4 => ?_⟩
  have sl := stair_length (us := us) gr.1
  have g2 : Gr (T0 T) [] H H2 := g1.trans (.of s2)
  have hu2 := hu1.same s2
  have hp2 := (hp.mono (.gr g1)).same s2
  have hz := gp.uo.len
  cases hL : least us p with
  | none =>
    have nn : askedM us p st = none := by
      unfold askedM
      rw [hL]
      rfl
    exact ⟨_, rfl, _, rfl, v1, v2, us, p, _, rfl, hu2, hp2, gp.uo, gp.ok, gp.deep, fun r e => (by rw [hL] at e; cases e), fun _ => ((kN nn).later g2).too⟩
  | some L =>
    obtain ⟨ln, lz⟩ := least_len us p _ L gp.ok hL
    dsimp only [tSeq, tAsg, gName]
    refine lcR (K := K) (i := 5) (rs := L) (fun o => within o (stair us st)) id (by omega) (fun _ => rfl) rfl ?_ ?_ ?_ ?_
    · intro R z
      refine ⟨_, rfl, _, rfl, v1, v2, us, p, _, rfl, hu2, hp2, gp.uo, gp.ok, gp.deep, fun r e => ?_, fun e => by rw [hL] at e; cases e⟩
      rw [hL] at e
      cases e
      rintro H3 v s3 ⟨l, vs, rfl, _, hl, hr3⟩
      exact z H3 l vs s3 hl hr3
    · intro v r H' R hm e t z
      have rl := ln r hm
      refine ⟨_, rfl, _, rfl, _, _, r, stair us st, rfl, t, h4.same e, by omega, fun w => by rw [w] at rl; simp at rl, by omega, fun H4 b s4 eb => ?_⟩
      exact ⟨_, eb, z H4 s4⟩
    · intro v r H' R hm _ e t z
      exact ⟨_, rfl, z H' v (Same.refl _) t⟩
    · intro D H3 vs3 e3 hD hd hr3
      rw [List.map_id] at hr3
      have g3 : Gr (T0 T) [] H H3 := g2.trans (.of e3)
      have li : (L.filter fun o => within o (stair us st)).length ≤ 40 := Nat.le_trans (List.length_filter_le _ _) lz
      dsimp only [tRet, tCall, tCons, tNil]
      refine ⟨_, rfl, ?_⟩
      refine lcR (K := K) (i := 5) (rs := L.filter fun o => within o (stair us st)) (fun _ => true) (fun o => goD us (zsub (stair us st) o)) (Nat.le_trans li (by decide)) (fun _ => rfl) rfl (fun R z => ⟨_, rfl, z H3 D vs3 (Same.refl _) hd hr3⟩) (fun v r H' R _ _ _ z => z H' (Same.refl _)) ?_ ?_
      · intro v r H' R hm _ e t z
        obtain ⟨hm1, hm2⟩ := List.mem_filter.mp hm
        have rl := ln r hm1
        refine ⟨_, rfl, _, rfl, _, rfl, _, _, stair us st, r, rfl, (h4.same e3).same e, t, by omega, fun H4 v5 s4 t5 => ?_⟩
        have dl : (zsub (stair us st) r).length = us.length + 1 := by rw [zsub_length (by omega), sl]
        have de : down us (zsub (stair us st) r) = some (goD us (zsub (stair us st) r)) := by
          unfold down
          rw [if_pos]
          exact hm2
        refine ⟨_, _, us, _, rfl, ((hu2.same e3).same e).same s4, t5, gp.uo, dl, fun H5 v6 s5 t6 => z H5 v6 (s4.trans s5) ?_⟩
        rw [show List.zipWith (fun x y => x - y) (stair us st) r = zsub (stair us st) r from rfl, de] at t6
        exact t6
      · intro D2 H4 vs4 e4 hD4 hd4 hr4
        rw [filter_true] at hr4
        have g4 : Gr (T0 T) [] H H4 := g3.trans (.of e4)
        have hlen : Len (us.length + 1) ((L.filter fun o => within o (stair us st)).map fun o => goD us (zsub (stair us st) o)) := by
          intro s hs
          obtain ⟨o, ho, rfl⟩ := List.mem_map.mp hs
          have := ln o (List.mem_filter.mp ho).1
          exact goD_length us _ (by rw [zsub_length (by omega), sl])
        refine ⟨.ref D2, _, rfl, ⟨D2, vs4, rfl, hd4, hr4⟩, hlen, by omega, by omega, by rw [List.length_map]; exact Nat.le_trans li (by decide), fun H5 v5 s5 nl => ?_⟩
        have mm : askedM us p st = some (rowsOf us (greatest ((L.filter fun o => within o (stair us st)).map fun o => goD us (zsub (stair us st) o)))) := by
          unfold askedM
          rw [hL]
          rfl
        refine ⟨v1, v5, us, _, rfl, ((hu2.same e3).same e4).same s5, nl.lr, gp.uo, fun s hs => hlen s (great_mem hs), ?_, fun H6 v6 s6 nt => kS _ mm H6 v6 (g4.trans (.of (s5.trans s6))) nt.tr⟩
        refine Nat.le_trans (great_length _) ?_
        rw [List.length_map]
        exact Nat.le_trans li (by decide)
end
end K40
end
section
set_option Elab.async false
set_option linter.all false
set_option autoImplicit false
set_option maxRecDepth 100000
set_option maxHeartbeats 4000000
/-! The law's draws. -/
namespace K40
open PySem PySem.Spec PyProof.Rows L2 LamX
/-- what is changed is no table and no code object -/
theorem Gr.but {TT : List (Addr × Str)} {B : List Addr} {H H' : Hp} (k : ∀ b o, b ∉ B → H b = some o → H' b = some o) (nt : ∀ b ∈ B, ∀ ps, H b ≠ some (.tbl ps)) (nc : ∀ b ∈ B, ∀ c q, H b ≠ some (CodeO c q)) : Gr TT B H H' := by
  refine ⟨fun b o e _ n => k b o n e, fun t p hp => ?_⟩
  obtain ⟨ps, h1, h2, h3⟩ := t p hp
  refine ⟨ps, k _ _ (fun m => nt _ m _ h1) h1, h2, fun pos cv hc => ?_⟩
  obtain ⟨c, e1, e2⟩ := h3 pos cv hc
  exact ⟨c, e1, k _ _ (fun m => nc _ m _ _ e2) e2⟩
theorem Gr.wide {TT : List (Addr × Str)} {B B' : List Addr} {H H' : Hp} (g : Gr TT B H H') (h : ∀ b ∈ B, b ∈ B') : Gr TT B' H H' := ⟨fun b o e n m => g.keep b o e n fun z => m (h b z), g.tabs⟩
theorem Gr.stay {TT : List (Addr × Str)} {B : List Addr} {H H' : Hp} (g : Gr TT B H H') {b : Addr} {o : HO} (e : H b = some o) (n : ∀ ps, o ≠ .tbl ps) (m : b ∉ B) : H' b = some o := g.keep b o e n m
theorem Gr.tups {TT : List (Addr × Str)} {B : List Addr} {H H' : Hp} (g : Gr TT B H H') (h : ∀ b ∈ B, ∀ xs, H b ≠ some (.tup xs)) : TupsStay H H' := fun b xs e => g.keep b _ e (fun _ z => by cases z) fun m => h b m xs e
/-- the state of the draws: n draws are done -/
def St (S C Lf : Addr) (n : Int) (H : Hp) : Prop := ∃ cells lefts : List Int, H S = some (.dK [(.inr "cells", .ref C), (.inr "lefts", .ref Lf), (.inr "at", .int n)]) ∧ H C = some (.lst (cells.map V.int)) ∧ H Lf = some (.lst (lefts.map V.int)) ∧
  cells.length = lefts.length ∧ 1 ≤ cells.length ∧ cells.length ≤ 1000 ∧ 0 ≤ n ∧ C ≠ Lf
theorem codeO_dK {c : Addr} {q : Str} {kvs : List (Key × V)} : HO.dK kvs ≠ CodeO c q := fun z => by
  unfold CodeO at z
  cases z
theorem codeO_lst {c : Addr} {q : Str} {xs : List V} : HO.lst xs ≠ CodeO c q := fun z => by
  unfold CodeO at z
  cases z
theorem St.gr {TT : List (Addr × Str)} {S C Lf : Addr} {n : Int} {H H' : Hp} (st : St S C Lf n H) (k : ∀ b o, b ≠ S → b ≠ Lf → H b = some o → H' b = some o) : Gr TT [S, Lf] H H' := by
  obtain ⟨cells, lefts, h1, h2, h3, _⟩ := st
  refine .but (fun b o m e => k b o (fun z => m (by simp [z])) (fun z => m (by simp [z])) e) (fun b m ps z => ?_) (fun b m c q z => ?_)
  · simp only [List.mem_cons, List.not_mem_nil, or_false] at m
    rcases m with rfl | rfl
    · rw [h1] at z; cases z
    · rw [h3] at z; cases z
  · simp only [List.mem_cons, List.not_mem_nil, or_false] at m
    rcases m with rfl | rfl
    · rw [h1] at z; exact codeO_dK (Option.some.inj z)
    · rw [h3] at z; exact codeO_lst (Option.some.inj z)
theorem St.tups {TT : List (Addr × Str)} {S C Lf : Addr} {n : Int} {H H' : Hp} (st : St S C Lf n H) (g : Gr TT [S, Lf] H H') : TupsStay H H' := by
  obtain ⟨cells, lefts, h1, h2, h3, _⟩ := st
  refine g.tups fun b m xs z => ?_
  simp only [List.mem_cons, List.not_mem_nil, or_false] at m
  rcases m with rfl | rfl
  · rw [h1] at z; cases z
  · rw [h3] at z; cases z
theorem St.same {S C Lf : Addr} {n : Int} {H H' : Hp} (st : St S C Lf n H) (e : Same H H') : St S C Lf n H' := by
  obtain ⟨cells, lefts, h1, h2, h3, r⟩ := st
  exact ⟨cells, lefts, e _ _ h1, e _ _ h2, e _ _ h3, r⟩
def spMixed : Sp := fun vs H Q _ => ∃ c k : Int, vs = [.int c, .int k] ∧ 0 ≤ k ∧ k ≤ 1000000 ∧ ∀ r : Int, 0 ≤ r → r < 2147483629 → Q (.int r) H
def spBegin (K : PySem.W.Frag) : Sp := fun vs H Q _ => ∃ (a : Addr) (ns : List Int), vs = [.ref a] ∧ SqL K H a (ns.map V.int) ∧ ns.length ≤ 63 ∧ ∀ H' S C Lf, Same H H' → H S = none → H Lf = none → St S C Lf 0 H' → Q (.ref S) H'
def spDraw (TT : List (Addr × Str)) : Sp := fun vs H Q _ => ∃ (S C Lf : Addr) (n lim : Int), vs = [.ref S, .int lim] ∧ St S C Lf n H ∧ n ≤ 900000 ∧ 0 < lim ∧ lim ≤ 1000000 ∧
  ∀ H' r, 0 ≤ r → r < lim → Gr TT [S, Lf] H H' → St S C Lf (n + 1) H' → Q (.int r) H'
theorem shaped_ints (ns : List Int) : SeqAt.shaped (.list (ns.map .int)) = true := by
  unfold SeqAt.shaped
  rw [PyData.canLay0, lay_ints, PyData.depth, depthAll_ints]
  rfl
theorem sql_same {K : PySem.W.Frag} {H H' : Hp} {a : Addr} {xs : List V} (e : Same H H') (h : SqL K H a xs) : SqL K H' a xs := Same.seq e h
/-- list(script) if script != [] else [0] -/
theorem cells_imp {K : PySem.W.Frag} {σ : L2.St} {H : Hp} {Q : VK} {a : Addr} {ns : List Int} (hσ : σ[0]? = some (some (.ref a))) (hs : SqL K H a (ns.map V.int)) (hz : ns.length ≤ 63)
    (k : ∀ (l : Addr) (cells : List Int) (H2 : Hp), Same H H2 → H l = none → H2 l = some (.lst (cells.map V.int)) → 1 ≤ cells.length → cells.length ≤ 63 → Q (.ref l) H2) :
    tIf (tTest (tOp (rNeD K) (tVar 0) (tLst tNil))) (tCB (fun xs H Q => ∃ p ys, xs = [.ref p] ∧ (SqL K H p ys ∨ SqT K H p ys) ∧ ∀ l, H l = none → Q (.ref l) (upd H l (.lst ys))) (tCons (tVar 0) tNil)) (tLst (tCons (tC (.int 0)) tNil)) σ H Q := by
  refine ⟨_, hσ, by show 0 ≤ sizeLine; decide, fun e ne => ?_⟩
  have s1 : Same H (upd H e (.lst [])) := same_new ne _
  have hs1 := sql_same s1 hs
  refine ⟨_, _, .lst hs1 (dpAll_ints ns), .lst (SqL.of upd_same) .nil, shaped_ints ns, shaped_nil, _, rfl, ?_⟩
  cases ns with
  | nil =>
    show if (!PyData.eqv (.list []) (.list [])) = true then _ else _
    rw [show PyData.eqv (.list []) (.list []) = true by decide +kernel]
    refine iteF ⟨by show 1 ≤ sizeLine; decide, fun l nl => ?_⟩
    exact k l [0] _ (same_upd s1 (s1.free nl)) (s1.free nl) upd_same (by simp) (by simp)
  | cons n ns =>
    rw [show PyData.eqv (.list ((n :: ns).map .int)) (.list []) = false by simp [PyData.eqv, PyData.eqvAll]]
    refine iteT ⟨_, hσ, a, _, rfl, .inl hs1, fun l nl => ?_⟩
    exact k l (n :: ns) _ (same_upd s1 (s1.free nl)) (s1.free nl) upd_same (by simp) hz
section
variable {P : Program} {w : World} {K : PySem.W.Frag} {mg : Str → Option Value} {base : Heap} {TT : List (Addr × Str)}
theorem scWMixed : FnScope ["_law_cell", "_law_k"] ["_law_cell", "_law_k"] (defScope sWMixed) := ⟨rfl, rfl, rfl, by decide +kernel, rfl, by decide +kernel, by decide +kernel⟩
theorem ok_wMixed (T : Wd K mg) : FnOk P w K mg base CX0 1 T.wMixed.f T.wMixed.fd ["_law_cell", "_law_k"] spMixed := by
  refine T.wMixed.F.ok scWMixed (fun vs H Q E h => ?_) (fun cdv A outer s H vs Q E hr h => ⟨_, (pss_cons (ps_set (i := 0) scWMixed.nd rfl (.inl rfl) (pe_op op_mod (pe_callTy call_int1 (by rfl) T.nInt (by decide +kernel) (pa_cons (pv 0) pa_nil)) pe_int))
 (pss_one (ps_ret (pe_op op_mod (pe_op op_mul (pe_op op_mod (pe_op op_add (pe_op op_add (pe_op op_mul (pv 0) (pe_op op_add pe_int (pe_op op_mul (pe_op op_mul pe_int (pv 1)) (pv 1)))) (pe_op op_mul pe_int (pv 1))) pe_int) pe_int) pe_int) pe_int)))), ?_⟩)
  · obtain ⟨c, k, rfl, _⟩ := h
    rfl
  obtain ⟨c, k, rfl, k0, k1, q⟩ := h
  have c0 := Int.emod_nonneg c (by decide : (2147483647 : Int) ≠ 0)
  have c1 := Int.emod_lt_of_pos c (by decide : (0 : Int) < 2147483647)
  refine ⟨_, rfl, .inl ⟨c, rfl, _, _, rfl, rfl, by show (0 : Int) < 2147483647; decide, ?_⟩⟩
  refine ⟨_, rfl, _, rfl, _, _, rfl, rfl, .inl ⟨by omega, by omega⟩, _, rfl, _, _, rfl, rfl, .inl ⟨by omega, by omega⟩, _, _, rfl, rfl, _, _, rfl, rfl, .inl ⟨by omega, by omega⟩, ?_⟩
  refine ⟨_, rfl, _, _, rfl, rfl, .inl ⟨by omega, by omega⟩, _, _, rfl, rfl, _, _, rfl, rfl, _, _, rfl, rfl, by show (0 : Int) < 2147483647; decide, _, _, rfl, rfl, .inr ⟨by omega, by omega⟩, _, _, rfl, rfl, by show (0 : Int) < 2147483629; decide, ?_⟩
  exact q _ (Int.emod_nonneg _ (by decide)) (Int.emod_lt_of_pos _ (by decide))
theorem scWBegin : FnScope ["_law_script", "_law_cells_so", "_law_cell"] ["_law_script"] (defScope sWBegin) := ⟨rfl, rfl, rfl, by decide +kernel, rfl, by decide +kernel, by decide +kernel⟩
theorem ok_wBegin (T : Wd K mg) : FnOk P w K mg base CX0 1 T.wBegin.f T.wBegin.fd ["_law_script"] (spBegin K) := by
  refine T.wBegin.F.ok scWBegin (fun vs H Q E h => ?_) (fun cdv A outer s H vs Q E hr h => ⟨_, (pss_cons (ps_set (i := 1) scWBegin.nd rfl (.inl rfl) (pe_ifExp (pt_cmpR (op_neD (hu64_of hr)) (pv 0) (pe_lst pa_nil) (nomark _)) (pe_callTy call_list_of (by rfl) T.nList (by decide +kernel) (pa_cons (pv 0) pa_nil)) (pe_lst (pa_cons pe_int pa_nil))))
 (pss_one (ps_ret (pe_disp (pps_cons pe_str (pv 1) (pps_cons pe_str (pe_lc (g := (gName 2)) (own := [("_law_cell", 2)]) rfl scWBegin.nd  (pi_list (pv 1)) (blkOk_by (N := ["_law_script", "_law_cells_so", "_law_cell"]) (sc := defScope sWBegin) (by decide +kernel)) (fun _ _ _ _ _ => (pg_name (i := 2) scWBegin.nd rfl (.inl rfl))) (fun _ _ _ _ _ => pts_nil) (fun _ _ _ _ _ => (pe_ifExp (pt_cmpR op_ge (pv 2) (pe_op op_pow pe_int pe_int) (nomark _)) (pv 2) pe_int))) (pps_cons pe_str pe_int pps_nil))) rfl rfl (by simp) (by decide))))), ?_⟩)
  · obtain ⟨a, ns, rfl, _⟩ := h
    rfl
  obtain ⟨a, ns, rfl, hs, hz, q⟩ := h
  dsimp only [tSeq, tAsg]
  refine cells_imp (a := a) (ns := ns) rfl hs hz fun C cells H2 s2 nC hC c1 c63 => ?_
  refine fun S nS => ?_
  have nS0 : H S = none := s2.free nS
  have sS : Same H2 (upd H2 S (.dK [])) := same_new nS _
  have hC2 := sS _ _ hC
  refine ⟨_, rfl, ?_⟩
  refine ⟨_, rfl, C, rfl, ⟨_, SqL.of hC2⟩, fun Lf nL => ?_⟩
  have sL : Same (upd H2 S (.dK [])) (upd (upd H2 S (.dK [])) Lf (.lst [])) := same_new nL _
  have nCL : C ≠ Lf := ne_of_none hC2 nL
  refine lc_it (walk_list (K := K) (a := C) (xs := cells.map V.int)) (fun i H' => Sb Lf (upd H2 S (.dK [])) H' ∧ ∃ lefts : List Int, H' Lf = some (.lst (lefts.map V.int)) ∧ lefts.length = i)
    ⟨.of sL, [], upd_same, rfl⟩ (fun i H' _ x => SqL.of (x.1 _ _ nCL hC2)) ?_ ?_
  · rintro i v H1 H' hi ⟨s1, lefts, hl, ll⟩ ⟨rfl, hv⟩
    obtain ⟨z, hz2, rfl⟩ := mapI hv
    rw [List.length_map] at hi
    refine ⟨rfl, ?_⟩
    dsimp only [tYes]
    refine iteT ?_
    refine ⟨_, rfl, 10, 18, rfl, rfl, ⟨by decide, by decide, by decide⟩, _, _, rfl, rfl, _, rfl, ?_⟩
    refine ite2 (fun _ => ?_) (fun _ => ?_)
    · refine ⟨_, rfl, _, hl, ?_, s1.upd, lefts ++ [z], ?_, by simp [ll]⟩
      · rw [List.length_map]
        exact size_small (by omega)
      · rw [upd_same, List.map_append]
        rfl
    · refine ⟨_, hl, ?_, s1.upd, lefts ++ [0], ?_, by simp [ll]⟩
      · rw [List.length_map]
        exact size_small (by omega)
      · rw [upd_same, List.map_append]
        rfl
  · rintro H1 ⟨s1, lefts, hl, ll⟩
    rw [List.length_map] at ll
    have neSL : S ≠ Lf := ne_of_none upd_same nL
    have hS1 := s1 S _ neSL upd_same
    refine ⟨hS1, [(.inr "cells", .ref C), (.inr "lefts", .ref Lf), (.inr "at", .int 0)], rfl, by show 3 ≤ 15; decide, ?_⟩
    have hLf : H2 Lf = none := sS.free nL
    refine q _ S C Lf ?_ nS0 (s2.free hLf) ⟨cells, lefts, by rw [upd_same]; rfl, ?_, ?_, ll.symm, c1, by omega, by omega, nCL⟩
    · intro b o e
      have n1 : b ≠ S := ne_of_none e nS0
      have n2 : b ≠ Lf := ne_of_none e (s2.free hLf)
      exact (upd_ne n1).trans (s1 _ _ n2 (sS _ _ (s2 _ _ e)))
    · exact (upd_ne (ne_of_none hC nS)).trans (s1 _ _ nCL hC2)
    · exact (upd_ne (Ne.symm neSL)).trans hl
theorem scWDraw : FnScope ["_law_state", "_law_limit", "_law_at", "_law_place", "_law_left", "_law_number"] ["_law_state", "_law_limit"] (defScope sWDraw) := ⟨rfl, rfl, rfl, by decide +kernel, rfl, by decide +kernel, by decide +kernel⟩
theorem ok_wDraw (T : Wd K mg) : FnOk P w K mg base CX0 2 T.wDraw.f T.wDraw.fd ["_law_state", "_law_limit"] (spDraw TT) := by
  have GWMixed := ok_wMixed (P := P) (w := w) (base := base) T
  refine T.wDraw.F.ok scWDraw (fun vs H Q E h => ?_) (fun cdv A outer s H vs Q E hr h => ⟨_, (pss_cons (ps_set (i := 2) scWDraw.nd rfl (.inl rfl) (pe_dget (hu_of hr) (pv 0) pe_str (fun _ _ => rfl)))
 (pss_cons (ps_dput (hu_of hr) (pv 0) pe_str (pe_op op_add (pv 2) pe_int) rfl)
 (pss_cons (ps_set (i := 3) scWDraw.nd rfl (.inl rfl) (pe_op op_mod (pe_callTy call_int1 (by rfl) T.nInt (by decide +kernel) (pa_cons (pv 2) pa_nil)) (pe_callB call_len_seq (by rfl) T.nLen (by decide +kernel) (pa_cons (pe_dget (hu_of hr) (pv 0) pe_str (fun _ _ => rfl)) pa_nil))))
 (pss_cons (ps_set (i := 4) scWDraw.nd rfl (.inl rfl) (pe_ix ix_list (pe_dget (hu_of hr) (pv 0) pe_str (fun _ _ => rfl)) (pv 3) (fun _ _ => rfl)))
 (pss_cons (ps_if (pt_cmpR op_gt (pv 4) pe_int (nomark _)) (pss_cons (ps_asg (pe_op op_fdiv (pv 4) (pv 1)) (pg_sub (pe_dget (hu_of hr) (pv 0) pe_str (fun _ _ => rfl)) (pv 3) set_list))
 (pss_one (ps_ret (pe_op op_mod (pe_callTy call_int1 (by rfl) T.nInt (by decide +kernel) (pa_cons (pv 4) pa_nil)) (pv 1))))) pss_nil)
 (pss_cons (ps_set (i := 5) scWDraw.nd rfl (.inl rfl) (pe_call GWMixed (hr.mono (by first | decide | omega)) rfl T.wMixed.g T.wMixed.F.kp T.wMixed.b .nil pass0 (pa_cons (pe_call GWMixed (hr.mono (by first | decide | omega)) rfl T.wMixed.g T.wMixed.F.kp T.wMixed.b .nil pass0 (pa_cons (pe_ix ix_list (pe_dget (hu_of hr) (pv 0) pe_str (fun _ _ => rfl)) (pv 3) (fun _ _ => rfl)) (pa_cons (pv 2) pa_nil))) (pa_cons (pe_op op_add pe_int (pv 2)) pa_nil))))
 (pss_one (ps_ret (pe_op op_mod (pe_op op_fdiv (pe_callTy call_int1 (by rfl) T.nInt (by decide +kernel) (pa_cons (pe_op op_add (pe_op op_mul (pv 5) pe_int) (pe_call GWMixed (hr.mono (by first | decide | omega)) rfl T.wMixed.g T.wMixed.F.kp T.wMixed.b .nil pass0 (pa_cons (pv 5) (pa_cons (pe_op op_add pe_int (pv 2)) pa_nil)))) pa_nil)) pe_int) (pv 1)))))))))), ?_⟩)
  · obtain ⟨S, C, Lf, n, lim, rfl, _⟩ := h
    rfl
  obtain ⟨S, C, Lf, n, lim, rfl, st, hn, l0, l1, q⟩ := h
  obtain ⟨cells, lefts, hS, hC, hL, ll, c1, c2, n0, nCL⟩ := id st
  have nSC : C ≠ S := ne_of hC hS (fun z => by cases z)
  have nSL : Lf ≠ S := ne_of hL hS (fun z => by cases z)
  refine ⟨_, rfl, S, .int n, rfl, DGet.k (k := .inr "at") hS, ?_⟩
  refine ⟨_, rfl, _, _, rfl, rfl, _, rfl, S, _, rfl, DPut.k (k := .inr "at") hS (size_small (by show 3 ≤ 200000; decide)), ?_⟩
  have hS2 : upd H S (.dK (putK [(.inr "cells", .ref C), (.inr "lefts", .ref Lf), (.inr "at", .int n)] (.inr "at") (.int (n + 1)))) S = some (.dK [(.inr "cells", .ref C), (.inr "lefts", .ref Lf), (.inr "at", .int (n + 1))]) := by
    rw [upd_same]
    rfl
  have hC2 := (upd_ne (o := .dK (putK [(.inr "cells", .ref C), (.inr "lefts", .ref Lf), (.inr "at", .int n)] (.inr "at") (.int (n + 1)))) nSC).trans hC
  have hL2 := (upd_ne (o := .dK (putK [(.inr "cells", .ref C), (.inr "lefts", .ref Lf), (.inr "at", .int n)] (.inr "at") (.int (n + 1)))) nSL).trans hL
  have kp : ∀ b o, b ≠ S → b ≠ Lf → H b = some o → upd H S (.dK (putK [(.inr "cells", .ref C), (.inr "lefts", .ref Lf), (.inr "at", .int n)] (.inr "at") (.int (n + 1)))) b = some o := fun b o n1 _ e => (upd_ne n1).trans e
  generalize upd H S (.dK (putK [(.inr "cells", .ref C), (.inr "lefts", .ref Lf), (.inr "at", .int n)] (.inr "at") (.int (n + 1)))) = H2 at hS2 hC2 hL2 kp ⊢
  have st2 : St S C Lf (n + 1) H2 := ⟨cells, lefts, hS2, hC2, hL2, ll, c1, c2, by omega, nCL⟩
  have lpos : (0 : Int) < (cells.length : Int) := by omega
  have p0 := Int.emod_nonneg n (by omega : (cells.length : Int) ≠ 0)
  have p1 := Int.emod_lt_of_pos n lpos
  refine ⟨_, rfl, .inl ⟨n, rfl, _, rfl, S, .ref C, rfl, DGet.k (k := .inr "cells") hS2, C, _, rfl, .inl (SqL.of hC2), _, _, rfl, rfl, ?_, ?_⟩⟩
  · rw [List.length_map]
    exact lpos
  rw [List.length_map]
  obtain ⟨j, hj⟩ : ∃ j : Nat, n % (cells.length : Int) = j := ⟨(n % (cells.length : Int)).toNat, by omega⟩
  dsimp only
  rw [hj]
  have jl : j < cells.length := by omega
  obtain ⟨lf, hlf⟩ := get_some (S := lefts) rfl (i := j) (by omega)
  obtain ⟨ce, hce⟩ := get_some (S := cells) rfl (i := j) jl
  refine ⟨_, rfl, S, .ref Lf, rfl, DGet.k (k := .inr "lefts") hS2, _, rfl, Lf, _, _, .int lf, rfl, rfl, SqL.of hL2, atI_nat (by rw [List.getElem?_map, hlf]; rfl), ?_⟩
  refine ⟨_, rfl, _, _, rfl, rfl, _, rfl, ?_⟩
  refine ite2 (fun c => ?_) (fun c => ?_)
  · refine ⟨_, rfl, _, rfl, _, _, rfl, rfl, ⟨l0, by omega⟩, _, rfl, S, .ref Lf, rfl, DGet.k (k := .inr "lefts") hS2, _, rfl, Lf, _, _, j, rfl, rfl, hL2, ?_, ?_⟩
    · unfold ixN
      rw [if_pos (by omega), if_pos (by rw [List.length_map]; omega)]
      rfl
    · refine ⟨_, rfl, .inl ⟨lf, rfl, _, rfl, _, _, rfl, rfl, l0, ?_⟩⟩
      refine q _ _ (Int.emod_nonneg _ (by omega)) (Int.emod_lt_of_pos _ l0) (st.gr fun b o n1 n2 e => (upd_ne n2).trans (kp b o n1 n2 e)) ⟨cells, lefts.set j (lf / lim), ?_, ?_, ?_, by rw [List.length_set]; exact ll, c1, c2, by omega, nCL⟩
      · exact (upd_ne (Ne.symm nSL)).trans hS2
      · exact (upd_ne nCL).trans hC2
      · rw [upd_same, List.map_set]
  · refine ⟨_, rfl, S, .ref C, rfl, DGet.k (k := .inr "cells") hS2, _, rfl, C, _, _, .int ce, rfl, rfl, SqL.of hC2, atI_nat (by rw [List.getElem?_map, hce]; rfl), ?_⟩
    refine ⟨_, rfl, _, _, rfl, n0, by omega, fun r1 r10 r11 => ?_⟩
    refine ⟨_, rfl, _, _, rfl, rfl, _, _, rfl, by omega, by omega, fun r2 r20 r21 => ?_⟩
    refine ⟨_, rfl, _, _, rfl, rfl, .inl ⟨by omega, by omega⟩, _, rfl, _, rfl, _, _, rfl, rfl, _, _, rfl, by omega, by omega, fun r3 r30 r31 => ?_⟩
    refine ⟨_, _, rfl, rfl, .inl ⟨_, rfl, _, _, rfl, rfl, ⟨by show (0 : Int) < 64; decide, by show (64 : Int) < 1073741824; decide⟩, _, rfl, _, _, rfl, rfl, l0, ?_⟩⟩
    exact q _ _ (Int.emod_nonneg _ (by omega)) (Int.emod_lt_of_pos _ l0) (st.gr kp) st2
end
end K40
end
section
set_option Elab.async false
set_option linter.all false
set_option autoImplicit false
set_option maxRecDepth 100000
set_option maxHeartbeats 4000000
/-! The law's rows and plans. -/
namespace K40
open PySem PySem.Spec PyProof.Rows L2 LamX
def sizesM : List Int → List Int
  | [] => [1]
  | u :: us => (sizesM us).headD 1 * u :: sizesM us
def dot : List Int → List Int → Int
  | x :: xs, y :: ys => x * y + dot xs ys
  | _, _ => 0
/-- a row that may be drawn: its value at most m -/
def RowOk (us : List Int) (m : Int) (r : Row) : Prop := r.length = us.length + 1 ∧ (∀ x ∈ r, 0 ≤ x) ∧ dot r (sizesM us) ≤ m
def smallUs : List (List Int) := [[], [2], [3], [2, 2], [2, 3], [3, 2]]
def Drawn (us : List Int) : Nat → Plan → Prop
  | _, .fin => True
  | d + 1, .ask r p => RowOk us 5 r ∧ Drawn us d p
  | d + 1, .bring r p => RowOk us 4 r ∧ Drawn us d p
  | d + 1, .either a b => Drawn us d a ∧ Drawn us d b
  | d + 1, .ours a b => Drawn us d a ∧ Drawn us d b
  | 0, _ => False
def cost : Nat → Int
  | 0 => 0
  | d + 1 => 7 + 2 * cost d
theorem cost_pos : ∀ d, 0 ≤ cost d
  | 0 => by decide
  | d + 1 => by
    have := cost_pos d
    show 0 ≤ 7 + 2 * cost d
    omega
def chosenM : List Row → Plan
  | [] => .fin
  | [r] => .ask r .fin
  | r :: s :: rs => .ours (.ask r .fin) (chosenM (s :: rs))
theorem sizesM_length : ∀ us, (sizesM us).length = us.length + 1
  | [] => rfl
  | u :: us => by
    show (sizesM us).length + 1 = _
    rw [sizesM_length us]
    rfl
theorem sizesM_head (us : List Int) : (sizesM us)[0]? = some ((sizesM us).headD 1) := by
  cases us <;> rfl
theorem sizesM_pos : ∀ us, (∀ u ∈ us, 1 ≤ u) → ∀ x ∈ sizesM us, 1 ≤ x
  | [], _, x, hx => by
    simp [sizesM] at hx
    omega
  | u :: us, h, x, hx => by
    have ih := sizesM_pos us fun v hv => h v (List.mem_cons_of_mem _ hv)
    have hu := h u (by simp)
    have hd : 1 ≤ (sizesM us).headD 1 := ih _ (List.mem_iff_getElem?.mpr ⟨0, sizesM_head us⟩)
    rcases List.mem_cons.mp hx with e | m
    · rw [e]
      have := Int.mul_le_mul hd hu (by omega) (by omega)
      omega
    · exact ih x m
theorem sizesM_big : ∀ us, (∀ u ∈ us, 1 ≤ u ∧ u ≤ 10) → ∀ x ∈ sizesM us, x ≤ 10 ^ us.length
  | [], _, x, hx => by
    simp [sizesM] at hx
    simp
    omega
  | u :: us, h, x, hx => by
    have ih := sizesM_big us fun v hv => h v (List.mem_cons_of_mem _ hv)
    have ip := sizesM_pos us fun v hv => (h v (List.mem_cons_of_mem _ hv)).1
    have hu := h u (by simp)
    have hm := List.mem_iff_getElem?.mpr ⟨0, sizesM_head us⟩
    have e10 : (10 : Int) ^ (u :: us).length = 10 ^ us.length * 10 := by rw [List.length_cons, Int.pow_succ]
    have h1 := ih _ hm
    have h2 := ip _ hm
    rw [e10]
    rcases List.mem_cons.mp hx with e | m
    · rw [e]
      exact Int.mul_le_mul h1 hu.2 (by omega) (by omega)
    · have := ih x m
      omega
theorem UOk.sizes {us : List Int} (u : UOk us) {x : Int} (h : x ∈ sizesM us) : 1 ≤ x ∧ x ≤ 1000 := by
  refine ⟨sizesM_pos us (fun v hv => by have := u.lo v hv; omega) x h, ?_⟩
  have h1 := sizesM_big us (fun v hv => ⟨by have := u.lo v hv; omega, u.hi v hv⟩) x h
  have hl := u.len
  have : (10 : Int) ^ us.length ≤ 1000 := by
    have : ∀ k : Nat, k ≤ 3 → (10 : Int) ^ k ≤ 1000 := by decide
    exact this _ hl
  omega
theorem dot_snoc : ∀ (xs ys : List Int) (x y : Int), xs.length = ys.length → dot (xs ++ [x]) (ys ++ [y]) = dot xs ys + x * y
  | [], [], x, y, _ => by simp [dot]
  | a :: xs, b :: ys, x, y, h => by
    have ih := dot_snoc xs ys x y (by simpa using h)
    simp only [List.cons_append, dot, ih]
    omega
def spOf (TT : List (Addr × Str)) : Sp := fun vs H Q _ => ∃ (S C Lf : Addr) (n : Int) (v : V) (rs : List Row), vs = [.ref S, v] ∧ St S C Lf n H ∧ n ≤ 900000 ∧ TR H v rs ∧ rs ≠ [] ∧ rs.length ≤ 1000 ∧
  ∀ H' v' r, r ∈ rs → Gr TT [S, Lf] H H' → St S C Lf (n + 1) H' → TI H' v' r → Q v' H'
def spSizes : Sp := fun vs H Q _ => ∃ v us, vs = [v] ∧ TI H v us ∧ UOk us ∧ Ret H Q fun H' v => TI H' v (sizesM us)
def spRow (TT : List (Addr × Str)) : Sp := fun vs H Q _ => ∃ (S C Lf : Addr) (n m : Int) (v : V) (us : List Int), vs = [.ref S, v, .int m] ∧ St S C Lf n H ∧ n ≤ 800000 ∧ TI H v us ∧ UOk us ∧ 0 ≤ m ∧ m ≤ 1000 ∧
  ∀ H' v' r n', RowOk us m r → Gr TT [S, Lf] H H' → St S C Lf n' H' → n' ≤ n + 5 → TI H' v' r → Q v' H'
def spUnits (TT : List (Addr × Str)) : Sp := fun vs H Q _ => ∃ (S C Lf : Addr) (n : Int), vs = [.ref S] ∧ St S C Lf n H ∧ n ≤ 800000 ∧
  ∀ H' v' us, us ∈ smallUs → Gr TT [S, Lf] H H' → St S C Lf (n + 1) H' → TI H' v' us → Q v' H'
def spPlan (TT : List (Addr × Str)) (d : Nat) : Sp := fun vs H Q _ => ∃ (S C Lf : Addr) (n : Int) (v : V) (us : List Int), vs = [.ref S, v, .int d] ∧ St S C Lf n H ∧ n + cost d ≤ 700000 ∧ TI H v us ∧ UOk us ∧
  ∀ H' v' p n', Drawn us d p → p.At H' v' → Gr TT [S, Lf] H H' → St S C Lf n' H' → n' ≤ n + cost d → Q v' H'
def spChosen : Sp := fun vs H Q _ => ∃ v rs, vs = [v] ∧ LR H v rs ∧ rs ≠ [] ∧ rs.length ≤ 1000 ∧ Ret H Q fun H' v => (chosenM rs).At H' v
theorem St.two {S C Lf : Addr} {n : Int} {H : Hp} (st : St S C Lf n H) (TT : List (Addr × Str)) {H' : Hp} (e : Same H H') : Gr TT [S, Lf] H H' := (Gr.of e)
section
variable {P : Program} {w : World} {K : PySem.W.Frag} {mg : Str → Option Value} {base : Heap} {TT : List (Addr × Str)}
theorem scWOf : FnScope ["_law_state", "_law_some"] ["_law_state", "_law_some"] (defScope sWOf) := ⟨rfl, rfl, rfl, by decide +kernel, rfl, by decide +kernel, by decide +kernel⟩
theorem ok_wOf (T : Wd K mg) : FnOk P w K mg base CX0 3 T.wOf.f T.wOf.fd ["_law_state", "_law_some"] (spOf TT) := by
  have GWDraw := ok_wDraw (P := P) (w := w) (base := base) (TT := TT) T
  refine T.wOf.F.ok scWOf (fun vs H Q E h => ?_) (fun cdv A outer s H vs Q E hr h => ⟨_, (pss_one (ps_ret (pe_ix ix_tup (pv 1) (pe_call GWDraw (hr.mono (by first | decide | omega)) rfl T.wDraw.g T.wDraw.F.kp T.wDraw.b .nil pass0 (pa_cons (pv 0) (pa_cons (pe_callB call_len_seq (by rfl) T.nLen (by decide +kernel) (pa_cons (pv 1) pa_nil)) pa_nil))) (fun _ _ => rfl)))), ?_⟩)
  · obtain ⟨S, C, Lf, n, v, rs, rfl, _⟩ := h
    rfl
  obtain ⟨S, C, Lf, n, v, rs, rfl, st, hn, ⟨a, vs, rfl, ha, hr2⟩, ne, hl, q⟩ := h
  have pl := paired_length hr2
  have l0 : 0 < rs.length := List.length_pos_iff.mpr ne
  refine ⟨_, rfl, _, rfl, _, rfl, a, _, rfl, .inr (SqT.of ha), S, C, Lf, n, _, rfl, st, hn, by omega, by omega, fun H' r r0 r1 g st' => ?_⟩
  obtain ⟨j, rfl⟩ : ∃ j : Nat, r = j := ⟨r.toNat, by omega⟩
  have jl : j < vs.length := by omega
  have hj : vs[j]? = some vs[j] := List.getElem?_eq_getElem jl
  obtain ⟨x, hx, tx⟩ := hr2.nth hj
  have tu := st.tups g
  exact ⟨a, vs, _, _, rfl, rfl, SqT.of (tu _ _ ha), atI_nat hj, q H' _ x (List.mem_iff_getElem?.mpr ⟨j, hx⟩) g st' (tx.mono tu)⟩
theorem scWSizes : FnScope ["_law_units_so", "_law_found", "_law_ratio"] ["_law_units_so"] (defScope sWSizes) := ⟨rfl, rfl, rfl, by decide +kernel, rfl, by decide +kernel, by decide +kernel⟩
theorem ok_wSizes (T : Wd K mg) : FnOk P w K mg base CX0 1 T.wSizes.f T.wSizes.fd ["_law_units_so"] spSizes := by
  refine T.wSizes.F.ok scWSizes (fun vs H Q E h => ?_) (fun cdv A outer s H vs Q E hr h => ⟨_, (pss_cons (ps_set (i := 1) scWSizes.nd rfl (.inl rfl) (pe_tup (pa_cons pe_int pa_nil)))
 (pss_cons (ps_for PassesOwn.never rfl (pi_tup (pe_revT (pv 0))) (pg_name (i := 2) scWSizes.nd rfl (.inl rfl)) (pss_one (ps_set (i := 1) scWSizes.nd rfl (.inl rfl) (pe_op op_catU (pe_tup (pa_cons (pe_op op_mul (pe_ix ix_tup (pv 1) pe_int (fun _ _ => rfl)) (pv 2)) pa_nil)) (pv 1)))))
 (pss_one (ps_ret (pv 1))))), ?_⟩)
  · obtain ⟨v, us, rfl, _⟩ := h
    rfl
  obtain ⟨_, us, rfl, ⟨a, rfl, ha⟩, uo, k⟩ := h
  have hz := uo.len
  refine ⟨by show 1 ≤ sizeLine; decide, fun t0 n0 => ?_⟩
  have s1 : Same H (upd H t0 (.tup [.int 1])) := same_new n0 _
  refine ⟨_, rfl, a, _, rfl, SqT.of (s1 _ _ ha), fun b nb => ?_⟩
  have s2 : Same H (upd (upd H t0 (.tup [.int 1])) b (.tup (us.map V.int).reverse)) := same_upd s1 (s1.free nb)
  refine ⟨b, rfl, ⟨_, SqT.of upd_same⟩, for_tup (xs := (us.map V.int).reverse) (fun i σ H' => i ≤ us.length ∧ ∃ t v2, σ = [some (.ref a), some (.ref t), v2] ∧ Same (upd (upd H t0 (.tup [.int 1])) b (.tup (us.map V.int).reverse)) H' ∧ H' t = some (.tup ((sizesM (us.drop (us.length - i))).map V.int)))
    ⟨Nat.zero_le _, t0, none, rfl, Same.refl _, ?_⟩ (fun i σ H' _ ⟨_, _, _, _, s3, _⟩ => SqT.of (s3 _ _ upd_same)) ?_ ?_⟩
  · rw [upd_ne (ne_of_none upd_same nb), upd_same, Nat.sub_zero, List.drop_length]
    rfl
  · rintro i v σ H' hv ⟨il, t, v2, rfl, s3, ht⟩
    have hi : i < us.length := by
      have := (List.getElem?_eq_some_iff.mp hv).1
      simpa using this
    rw [List.getElem?_reverse (by simpa using hi), List.length_map] at hv
    obtain ⟨u, hu, rfl⟩ := mapI hv
    obtain ⟨u1, u2⟩ := uo.at hu
    have sub : ∀ x ∈ us.drop (us.length - i), 1 ≤ x ∧ x ≤ 10 := fun x hx => ⟨by have := uo.lo x (List.mem_of_mem_drop hx); omega, uo.hi x (List.mem_of_mem_drop hx)⟩
    have hm := List.mem_iff_getElem?.mpr ⟨0, sizesM_head (us.drop (us.length - i))⟩
    have h1 := sizesM_pos _ (fun x hx => (sub x hx).1) _ hm
    have h2 := sizesM_big _ sub _ hm
    have h3 : (10 : Int) ^ (us.drop (us.length - i)).length ≤ 1000 := by
      have hl : (us.drop (us.length - i)).length ≤ 3 := by rw [List.length_drop]; omega
      have : ∀ k : Nat, k ≤ 3 → (10 : Int) ^ k ≤ 1000 := by decide
      exact this _ hl
    refine ⟨_, rfl, t, _, 0, .int ((sizesM (us.drop (us.length - i))).headD 1), rfl, rfl, SqT.of ht, atI_nat (j := 0) (by rw [List.getElem?_map, sizesM_head]; rfl), _, rfl, _, _, rfl, rfl, .inl ⟨by omega, by omega⟩, by show 1 ≤ sizeLine; decide, fun t6 n6 => ?_⟩
    have s6 : Same H' (upd H' t6 (.tup [.int ((sizesM (us.drop (us.length - i))).headD 1 * u)])) := same_new n6 _
    refine ⟨_, rfl, t6, t, _, _, rfl, rfl, upd_same, s6 _ _ ht, ?_, fun H7 p s7 hp => ?_⟩
    · rw [List.length_map, sizesM_length, List.length_drop]
      simp
      omega
    refine ⟨hi, p, _, rfl, s3.trans (s6.trans s7), ?_⟩
    rw [hp]
    have e1 : us.length - (i + 1) = us.length - 1 - i := by omega
    have hd : us.drop (us.length - (i + 1)) = u :: us.drop (us.length - i) := by
      rw [e1]
      obtain ⟨h1, h2⟩ := List.getElem?_eq_some_iff.mp hu
      rw [List.drop_eq_getElem_cons h1, h2]
      congr 2
      omega
    rw [hd]
    rfl
  · rintro σ H' ⟨_, t, v2, rfl, s3, ht⟩
    rw [List.length_reverse, List.length_map, Nat.sub_self, List.drop_zero] at ht
    exact ⟨_, rfl, k H' _ (s2.trans s3) ⟨t, rfl, ht⟩⟩
theorem scWRow : FnScope ["_law_state", "_law_units_so", "_law_most", "_law_found", "_law_left", "_law_size", "_law_number"] ["_law_state", "_law_units_so", "_law_most"] (defScope sWRow) := ⟨rfl, rfl, rfl, by decide +kernel, rfl, by decide +kernel, by decide +kernel⟩
theorem ok_wRow (T : Wd K mg) : FnOk P w K mg base CX0 3 T.wRow.f T.wRow.fd ["_law_state", "_law_units_so", "_law_most"] (spRow TT) := by
  have GWDraw := ok_wDraw (P := P) (w := w) (base := base) (TT := TT) T
  have GWSizes := ok_wSizes (P := P) (w := w) (base := base) T
  refine T.wRow.F.ok scWRow (fun vs H Q E h => ?_) (fun cdv A outer s H vs Q E hr h => ⟨_, (pss_cons (ps_par (i := 3) (j := 4) rfl scWRow.nd rfl rfl (by decide) rfl rfl (pa_cons (pe_tup pa_nil) (pa_cons (pe_call GWDraw (hr.mono (by first | decide | omega)) rfl T.wDraw.g T.wDraw.F.kp T.wDraw.b .nil pass0 (pa_cons (pv 0) (pa_cons (pe_op op_add (pv 2) pe_int) pa_nil))) pa_nil)) rfl)
 (pss_cons (ps_for PassesOwn.never rfl (pi_tup (pe_call GWSizes (hr.mono (by first | decide | omega)) rfl T.wSizes.g T.wSizes.F.kp T.wSizes.b .nil pass0 (pa_cons (pv 1) pa_nil))) (pg_name (i := 5) scWRow.nd rfl (.inl rfl)) (pss_cons (ps_set (i := 6) scWRow.nd rfl (.inl rfl) (pe_call GWDraw (hr.mono (by first | decide | omega)) rfl T.wDraw.g T.wDraw.F.kp T.wDraw.b .nil pass0 (pa_cons (pv 0) (pa_cons (pe_op op_add (pe_op op_fdiv (pe_callTy call_int1 (by rfl) T.nInt (by decide +kernel) (pa_cons (pv 4) pa_nil)) (pv 5)) pe_int) pa_nil))))
 (pss_one (ps_par (i := 3) (j := 4) rfl scWRow.nd rfl rfl (by decide) rfl rfl (pa_cons (pe_op op_catU (pv 3) (pe_tup (pa_cons (pv 6) pa_nil))) (pa_cons (pe_op op_sub (pv 4) (pe_op op_mul (pv 6) (pv 5))) pa_nil)) rfl))))
 (pss_one (ps_ret (pv 3))))), ?_⟩)
  · obtain ⟨S, C, Lf, n, m, v, us, rfl, _⟩ := h
    rfl
  obtain ⟨S, C, Lf, n, m, v, us, rfl, st, hn, hu, uo, m0, m1, q⟩ := h
  have hz := uo.len
  refine ⟨by show 0 ≤ sizeLine; decide, fun t0 n0 => ?_⟩
  have s1 : Same H (upd H t0 (.tup [])) := same_new n0 _
  refine ⟨_, rfl, _, rfl, _, _, rfl, rfl, S, C, Lf, n, _, rfl, st.same s1, by omega, by omega, by omega, fun H1 left l0 l1 g1 st1 => ?_⟩
  have tu1 := (st.same s1).tups g1
  refine ⟨_, _, rfl, ?_⟩
  refine ⟨_, rfl, v, us, rfl, (hu.same s1).mono tu1, uo, fun H2 sv s2 hsv => ?_⟩
  obtain ⟨b, rfl, hb⟩ := hsv
  have zl := sizesM_length us
  have g2 : Gr TT [S, Lf] H H2 := ((st.two TT s1).trans g1).trans (st1.two TT s2)
  have ht0 := s2 _ _ (tu1 _ _ (upd_same (H := H) (a := t0) (o := .tup [])))
  refine ⟨b, rfl, ⟨_, SqT.of hb⟩, for_tup (xs := (sizesM us).map V.int) (fun i σ H' => ∃ (t : Addr) (r : Row) (lf : Int) (v5 v6 : Option V), σ = [some (.ref S), some v, some (.int m), some (.ref t), some (.int lf), v5, v6] ∧ Gr TT [S, Lf] H2 H' ∧ St S C Lf (n + 1 + i) H' ∧
    H' t = some (.tup (r.map V.int)) ∧ r.length = i ∧ (∀ x ∈ r, 0 ≤ x) ∧ 0 ≤ lf ∧ lf + dot r ((sizesM us).take i) ≤ m ∧ i ≤ us.length + 1)
    ⟨t0, [], left, none, none, rfl, .refl H2, by simpa using st1.same s2, ht0, rfl, fun x hx => by simp at hx, l0, by simp [dot]; omega, Nat.zero_le _⟩ (fun i σ H' _ ⟨_, _, _, _, _, _, g3, _⟩ => SqT.of ((st1.same s2).tups g3 _ _ hb)) ?_ ?_⟩
  · rintro i x σ H' hx ⟨t, r, lf, v5, v6, rfl, g3, st3, ht, rl, rp, lf0, lfm, il⟩
    obtain ⟨z, hzi, rfl⟩ := mapI hx
    have zm := List.mem_iff_getElem?.mpr ⟨i, hzi⟩
    obtain ⟨z1, z2⟩ := uo.sizes zm
    have d0 : 0 ≤ lf / z := Int.ediv_nonneg lf0 (by omega)
    have dp : 0 ≤ dot r ((sizesM us).take i) := by
      have : ∀ (a b : List Int), (∀ x ∈ a, 0 ≤ x) → (∀ x ∈ b, 0 ≤ x) → 0 ≤ dot a b := by
        intro a
        induction a with
        | nil => intro b _ _; cases b <;> simp [dot]
        | cons y ys ih =>
          intro b h1 h2
          cases b with
          | nil => simp [dot]
          | cons w ws =>
            have := ih ws (fun x hx => h1 x (by simp [hx])) (fun x hx => h2 x (by simp [hx]))
            have := Int.mul_nonneg (h1 y (by simp)) (h2 w (by simp))
            simp only [dot]
            omega
      exact this _ _ rp fun x hx => by have := (uo.sizes (List.mem_of_mem_take hx)).1; omega
    have dm : lf / z ≤ lf := Int.ediv_le_self z lf0
    refine ⟨_, rfl, _, rfl, .inl ⟨lf, rfl, _, rfl, _, _, rfl, rfl, ⟨by omega, by omega⟩, _, _, rfl, rfl, S, C, Lf, _, _, rfl, st3, by omega, by omega, by omega, fun H4 num c0 c1 g4 st4 => ?_⟩⟩
    have tu4 := st3.tups g4
    refine ⟨_, rfl, _, rfl, by show 1 ≤ sizeLine; decide, fun t6 n6 => ?_⟩
    have s6 : Same H4 (upd H4 t6 (.tup [.int num])) := same_new n6 _
    refine ⟨t, t6, _, _, rfl, rfl, s6 _ _ (tu4 _ _ ht), upd_same, ?_, fun H7 p s7 hp => ?_⟩
    · rw [List.length_map]
      simp
      omega
    have s67 : Same H4 H7 := s6.trans s7
    have mulz : num * z ≤ lf := by
      have h1 : num ≤ lf / z := by omega
      have h2 := Int.mul_le_mul_of_nonneg_right h1 (by omega : 0 ≤ z)
      have h3 := Int.ediv_mul_le lf (by omega : z ≠ 0)
      omega
    refine ⟨_, rfl, _, rfl, _, rfl, _, _, rfl, rfl, .inr ⟨by omega, by omega⟩, _, _, rfl, rfl, _, _, rfl, ?_⟩
    refine ⟨p, r ++ [num], lf - num * z, _, _, rfl, (g3.trans g4).trans (st4.two TT s67), ?_, ?_, by simp [rl], ?_, by omega, ?_, by have := (List.getElem?_eq_some_iff.mp hzi).1; omega⟩
    · have e : n + 1 + ((i + 1 : Nat) : Int) = n + 1 + (i : Int) + 1 := by omega
      rw [e]
      exact st4.same s67
    · rw [hp, List.map_append]
      rfl
    · intro y hy
      rcases List.mem_append.mp hy with hy | hy
      · exact rp y hy
      · simp at hy
        omega
    · rw [List.take_add_one, hzi]
      show lf - num * z + dot (r ++ [num]) ((sizesM us).take i ++ [z]) ≤ m
      rw [dot_snoc r _ num z (by rw [List.length_take, rl, zl]; have := (List.getElem?_eq_some_iff.mp hzi).1; omega)]
      omega
  · rintro σ H' ⟨t, r, lf, v5, v6, rfl, g3, st3, ht, rl, rp, lf0, lfm, il⟩
    rw [List.length_map] at st3 rl lfm
    rw [List.take_length] at lfm
    refine ⟨_, rfl, q H' _ r _ ⟨by omega, rp, by omega⟩ (g2.trans g3) st3 (by omega) ⟨t, rfl, ht⟩⟩
theorem scWSmallUnits : FnScope ["_law_state"] ["_law_state"] (defScope sWSmallUnits) := ⟨rfl, rfl, rfl, by decide +kernel, rfl, by decide +kernel, by decide +kernel⟩
theorem ok_wSmallUnits (T : Wd K mg) : FnOk P w K mg base CX0 3 T.wSmallUnits.f T.wSmallUnits.fd ["_law_state"] (spUnits TT) := by
  have GWDraw := ok_wDraw (P := P) (w := w) (base := base) (TT := TT) T
  refine T.wSmallUnits.F.ok scWSmallUnits (fun vs H Q E h => ?_) (fun cdv A outer s H vs Q E hr h => ⟨_, (pss_one (ps_ret (pe_ix ix_list (pe_lst (pa_cons (pe_tup pa_nil) (pa_cons (pe_tup (pa_cons pe_int pa_nil)) (pa_cons (pe_tup (pa_cons pe_int pa_nil)) (pa_cons (pe_tup (pa_cons pe_int (pa_cons pe_int pa_nil))) (pa_cons (pe_tup (pa_cons pe_int (pa_cons pe_int pa_nil))) (pa_cons (pe_tup (pa_cons pe_int (pa_cons pe_int pa_nil))) pa_nil))))))) (pe_call GWDraw (hr.mono (by first | decide | omega)) rfl T.wDraw.g T.wDraw.F.kp T.wDraw.b .nil pass0 (pa_cons (pv 0) (pa_cons pe_int pa_nil))) (fun _ _ => rfl)))), ?_⟩)
  · obtain ⟨S, C, Lf, n, rfl, _⟩ := h
    rfl
  obtain ⟨S, C, Lf, n, rfl, st, hn, q⟩ := h
  refine ⟨by show 0 ≤ sizeLine; decide, fun t0 n0 => ⟨by show 1 ≤ sizeLine; decide, fun t1 n1 => ⟨by show 1 ≤ sizeLine; decide, fun t2 n2 => ⟨by show 2 ≤ sizeLine; decide, fun t3 n3 => ⟨by show 2 ≤ sizeLine; decide, fun t4 n4 => ⟨by show 2 ≤ sizeLine; decide, fun t5 n5 => ⟨by show 6 ≤ sizeLine; decide, fun l nl => ?_⟩⟩⟩⟩⟩⟩⟩
  have s0 := same_new n0 (.tup [])
  have s1 := same_new n1 (.tup [.int 2])
  have s2 := same_new n2 (.tup [.int 3])
  have s3 := same_new n3 (.tup [.int 2, .int 2])
  have s4 := same_new n4 (.tup [.int 2, .int 3])
  have s5 := same_new n5 (.tup [.int 3, .int 2])
  have s6 := same_new nl (.lst [.ref t0, .ref t1, .ref t2, .ref t3, .ref t4, .ref t5])
  have e0 := s6 _ _ (s5 _ _ (s4 _ _ (s3 _ _ (s2 _ _ (s1 _ _ (upd_same (H := H) (a := t0) (o := .tup [])))))))
  have e1 := s6 _ _ (s5 _ _ (s4 _ _ (s3 _ _ (s2 _ _ (upd_same (H := upd H t0 (.tup [])) (a := t1) (o := .tup [.int 2]))))))
  have e2 := s6 _ _ (s5 _ _ (s4 _ _ (s3 _ _ (upd_same (a := t2) (o := .tup [.int 3])))))
  have e3 := s6 _ _ (s5 _ _ (s4 _ _ (upd_same (a := t3) (o := .tup [.int 2, .int 2]))))
  have e4 := s6 _ _ (s5 _ _ (upd_same (a := t4) (o := .tup [.int 2, .int 3])))
  have e5 := s6 _ _ (upd_same (a := t5) (o := .tup [.int 3, .int 2]))
  have sA := ((((((s0.trans s1).trans s2).trans s3).trans s4).trans s5).trans s6)
  have hl := upd_same (H := upd (upd (upd (upd (upd (upd H t0 (.tup [])) t1 (.tup [.int 2])) t2 (.tup [.int 3])) t3 (.tup [.int 2, .int 2])) t4 (.tup [.int 2, .int 3])) t5 (.tup [.int 3, .int 2])) (a := l) (o := .lst [.ref t0, .ref t1, .ref t2, .ref t3, .ref t4, .ref t5])
  have stA := st.same sA
  refine ⟨_, rfl, S, C, Lf, n, _, rfl, stA, by omega, by decide, by decide, fun H' r r0 r1 g st' => ?_⟩
  obtain ⟨j, rfl⟩ : ∃ j : Nat, r = j := ⟨r.toNat, by omega⟩
  have tu := stA.tups g
  have gA : Gr TT [S, Lf] H H' := (st.two TT sA).trans g
  have nS : l ≠ S := by
    obtain ⟨_, _, hS, _⟩ := stA
    exact ne_of hl hS (fun z => by cases z)
  have nL : l ≠ Lf := fun z => by
    obtain ⟨_, _, _, _, hL, _⟩ := st
    have e : H l = none := ((((((s0.trans s1).trans s2).trans s3).trans s4).trans s5)).free nl
    rw [z] at e
    rw [e] at hL
    cases hL
  have hl' := g.stay hl (fun _ z => by cases z) (by simp [nS, nL])
  have go : ∀ (t : Addr) (us : List Int), ([.ref t0, .ref t1, .ref t2, .ref t3, .ref t4, .ref t5] : List V)[j]? = some (.ref t) → us ∈ smallUs → H' t = some (.tup (us.map V.int)) → _ := fun t us hj hus ht => (⟨l, _, _, .ref t, rfl, rfl, SqL.of hl', atI_nat hj, q H' _ us hus gA st' ⟨t, rfl, ht⟩⟩ : rIxL K (.ref l) (.int (j : Int)) H' Q)
  have jl : j < 6 := by omega
  match j, jl with
  | 0, _ => exact go t0 [] rfl (by decide) (tu _ _ e0)
  | 1, _ => exact go t1 [2] rfl (by decide) (tu _ _ e1)
  | 2, _ => exact go t2 [3] rfl (by decide) (tu _ _ e2)
  | 3, _ => exact go t3 [2, 2] rfl (by decide) (tu _ _ e3)
  | 4, _ => exact go t4 [2, 3] rfl (by decide) (tu _ _ e4)
  | 5, _ => exact go t5 [3, 2] rfl (by decide) (tu _ _ e5)
theorem scWSmallPlan : FnScope ["_law_state", "_law_units_so", "_law_deep", "_law_pick", "_law_one"] ["_law_state", "_law_units_so", "_law_deep"] (defScope sWSmallPlan) := ⟨rfl, rfl, rfl, by decide +kernel, rfl, by decide +kernel, by decide +kernel⟩
theorem ok_wSmallPlan (T : Wd K mg) : ∀ d : Nat, FnOk P w K mg base CX0 (4 + d) T.wSmallPlan.f T.wSmallPlan.fd ["_law_state", "_law_units_so", "_law_deep"] (spPlan TT d) := by
  have GWDraw := ok_wDraw (P := P) (w := w) (base := base) (TT := TT) T
  have GWRow := ok_wRow (P := P) (w := w) (base := base) (TT := TT) T
  intro d
  induction d with
  | zero =>
    have GWSmallPlan : FnOk P w K mg base CX0 3 T.wSmallPlan.f T.wSmallPlan.fd ["_law_state", "_law_units_so", "_law_deep"] (fun _ _ _ _ => False) := fnOk_none fun _ _ _ _ z => z
    refine T.wSmallPlan.F.ok (k := 3) scWSmallPlan (fun vs H Q E h => ?_) (fun cdv A outer s H vs Q E hr h => ⟨_, (pss_cons (ps_set (i := 3) scWSmallPlan.nd rfl (.inl rfl) (pe_ifExp (pt_cmpR op_gt (pv 2) pe_int (nomark _)) (pe_call GWDraw (hr.mono (by first | decide | omega)) rfl T.wDraw.g T.wDraw.F.kp T.wDraw.b .nil pass0 (pa_cons (pv 0) (pa_cons pe_int pa_nil))) pe_int))
 (pss_cons (ps_if (pt_cmpR op_lt (pv 3) pe_int (nomark _)) (pss_one (ps_ret (pe_tup (pa_cons pe_str pa_nil)))) pss_nil)
 (pss_cons (ps_if (pt_cmpR op_lt (pv 3) pe_int (nomark _)) (pss_one (ps_ret (pe_tup (pa_cons pe_str (pa_cons (pe_call GWRow (hr.mono (by first | decide | omega)) rfl T.wRow.g T.wRow.F.kp T.wRow.b .nil pass0 (pa_cons (pv 0) (pa_cons (pv 1) (pa_cons pe_int pa_nil)))) (pa_cons (pe_call GWSmallPlan (hr.mono (by first | decide | omega)) rfl T.wSmallPlan.g T.wSmallPlan.F.kp T.wSmallPlan.b .nil pass0 (pa_cons (pv 0) (pa_cons (pv 1) (pa_cons (pe_op op_sub (pv 2) pe_int) pa_nil)))) pa_nil)))))) pss_nil)
 (pss_cons (ps_if (pt_cmpR op_eq (pv 3) pe_int (nomark _)) (pss_one (ps_ret (pe_tup (pa_cons pe_str (pa_cons (pe_call GWRow (hr.mono (by first | decide | omega)) rfl T.wRow.g T.wRow.F.kp T.wRow.b .nil pass0 (pa_cons (pv 0) (pa_cons (pv 1) (pa_cons pe_int pa_nil)))) (pa_cons (pe_call GWSmallPlan (hr.mono (by first | decide | omega)) rfl T.wSmallPlan.g T.wSmallPlan.F.kp T.wSmallPlan.b .nil pass0 (pa_cons (pv 0) (pa_cons (pv 1) (pa_cons (pe_op op_sub (pv 2) pe_int) pa_nil)))) pa_nil)))))) pss_nil)
 (pss_cons (ps_set (i := 4) scWSmallPlan.nd rfl (.inl rfl) (pe_call GWSmallPlan (hr.mono (by first | decide | omega)) rfl T.wSmallPlan.g T.wSmallPlan.F.kp T.wSmallPlan.b .nil pass0 (pa_cons (pv 0) (pa_cons (pv 1) (pa_cons (pe_op op_sub (pv 2) pe_int) pa_nil)))))
 (pss_one (ps_ret (pe_tup (pa_cons (pe_ifExp (pt_cmpR op_lt (pv 3) pe_int (nomark _)) pe_str pe_str) (pa_cons (pv 4) (pa_cons (pe_call GWSmallPlan (hr.mono (by first | decide | omega)) rfl T.wSmallPlan.g T.wSmallPlan.F.kp T.wSmallPlan.b .nil pass0 (pa_cons (pv 0) (pa_cons (pv 1) (pa_cons (pe_op op_sub (pv 2) pe_int) pa_nil)))) pa_nil))))))))))), ?_⟩)
    · obtain ⟨S, C, Lf, n, v, us, rfl, _⟩ := h
      rfl
    obtain ⟨S, C, Lf, n, v, us, rfl, st, hn, hu, uo, q⟩ := h
    refine ⟨_, rfl, _, _, rfl, rfl, _, rfl, iteF ?_⟩
    refine ⟨_, rfl, _, _, rfl, rfl, _, rfl, iteT ?_⟩
    refine ⟨by show 1 ≤ sizeLine; decide, fun t nt => ?_⟩
    have s1 := same_new nt (.tup [.str "end"])
    exact q _ _ .fin n trivial ⟨t, rfl, upd_same⟩ (st.two TT s1) (st.same s1) (by have := cost_pos 0; omega)
  | succ d ih =>
    have GWSmallPlan := ih
    have cp := cost_pos d
    refine T.wSmallPlan.F.ok (k := 4 + d) scWSmallPlan (fun vs H Q E h => ?_) (fun cdv A outer s H vs Q E hr h => ⟨_, (pss_cons (ps_set (i := 3) scWSmallPlan.nd rfl (.inl rfl) (pe_ifExp (pt_cmpR op_gt (pv 2) pe_int (nomark _)) (pe_call GWDraw (hr.mono (by first | decide | omega)) rfl T.wDraw.g T.wDraw.F.kp T.wDraw.b .nil pass0 (pa_cons (pv 0) (pa_cons pe_int pa_nil))) pe_int))
 (pss_cons (ps_if (pt_cmpR op_lt (pv 3) pe_int (nomark _)) (pss_one (ps_ret (pe_tup (pa_cons pe_str pa_nil)))) pss_nil)
 (pss_cons (ps_if (pt_cmpR op_lt (pv 3) pe_int (nomark _)) (pss_one (ps_ret (pe_tup (pa_cons pe_str (pa_cons (pe_call GWRow (hr.mono (by first | decide | omega)) rfl T.wRow.g T.wRow.F.kp T.wRow.b .nil pass0 (pa_cons (pv 0) (pa_cons (pv 1) (pa_cons pe_int pa_nil)))) (pa_cons (pe_call GWSmallPlan (hr.mono (by first | decide | omega)) rfl T.wSmallPlan.g T.wSmallPlan.F.kp T.wSmallPlan.b .nil pass0 (pa_cons (pv 0) (pa_cons (pv 1) (pa_cons (pe_op op_sub (pv 2) pe_int) pa_nil)))) pa_nil)))))) pss_nil)
 (pss_cons (ps_if (pt_cmpR op_eq (pv 3) pe_int (nomark _)) (pss_one (ps_ret (pe_tup (pa_cons pe_str (pa_cons (pe_call GWRow (hr.mono (by first | decide | omega)) rfl T.wRow.g T.wRow.F.kp T.wRow.b .nil pass0 (pa_cons (pv 0) (pa_cons (pv 1) (pa_cons pe_int pa_nil)))) (pa_cons (pe_call GWSmallPlan (hr.mono (by first | decide | omega)) rfl T.wSmallPlan.g T.wSmallPlan.F.kp T.wSmallPlan.b .nil pass0 (pa_cons (pv 0) (pa_cons (pv 1) (pa_cons (pe_op op_sub (pv 2) pe_int) pa_nil)))) pa_nil)))))) pss_nil)
 (pss_cons (ps_set (i := 4) scWSmallPlan.nd rfl (.inl rfl) (pe_call GWSmallPlan (hr.mono (by first | decide | omega)) rfl T.wSmallPlan.g T.wSmallPlan.F.kp T.wSmallPlan.b .nil pass0 (pa_cons (pv 0) (pa_cons (pv 1) (pa_cons (pe_op op_sub (pv 2) pe_int) pa_nil)))))
 (pss_one (ps_ret (pe_tup (pa_cons (pe_ifExp (pt_cmpR op_lt (pv 3) pe_int (nomark _)) pe_str pe_str) (pa_cons (pv 4) (pa_cons (pe_call GWSmallPlan (hr.mono (by first | decide | omega)) rfl T.wSmallPlan.g T.wSmallPlan.F.kp T.wSmallPlan.b .nil pass0 (pa_cons (pv 0) (pa_cons (pv 1) (pa_cons (pe_op op_sub (pv 2) pe_int) pa_nil)))) pa_nil))))))))))), ?_⟩)
    · obtain ⟨S, C, Lf, n, v, us, rfl, _⟩ := h
      rfl
    obtain ⟨S, C, Lf, n, v, us, rfl, st, hn, hu, uo, q⟩ := h
    have cd : cost (d + 1) = 7 + 2 * cost d := rfl
    refine ⟨_, rfl, _, _, rfl, rfl, _, rfl, ?_⟩
    rw [decide_eq_true (by omega : (0 : Int) < ((d + 1 : Nat) : Int))]
    refine iteT ?_
    refine ⟨_, rfl, S, C, Lf, n, _, rfl, st, by omega, by decide, by decide, fun H1 pick p0 p1 g1 st1 => ?_⟩
    have tu1 := st.tups g1
    have hu1 := hu.mono tu1
    have dd : ((d + 1 : Nat) : Int) - 1 = (d : Int) := by omega
    refine ⟨_, rfl, _, _, rfl, rfl, _, rfl, ?_⟩
    refine ite2 (fun c => ?_) (fun c => ?_)
    · refine ⟨by show 1 ≤ sizeLine; decide, fun t nt => ?_⟩
      have s1 := same_new nt (.tup [.str "end"])
      exact q _ _ .fin _ trivial ⟨t, rfl, upd_same⟩ (g1.trans (st1.two TT s1)) (st1.same s1) (by omega)
    refine ⟨_, rfl, _, _, rfl, rfl, _, rfl, ?_⟩
    refine ite2 (fun c2 => ?_) (fun c2 => ?_)
    · refine ⟨_, rfl, _, rfl, S, C, Lf, _, 5, v, us, rfl, st1, by omega, hu1, uo, by decide, by decide, fun H2 rv r n2 rok g2 st2 n2l hrv => ?_⟩
      have tu2 := st1.tups g2
      refine ⟨_, rfl, _, rfl, _, rfl, _, _, rfl, rfl, ?_⟩
      dsimp only
      rw [dd]
      refine ⟨S, C, Lf, _, v, us, rfl, st2, by omega, hu1.mono tu2, uo, fun H3 pv p n3 dr hp g3 st3 n3l => ?_⟩
      refine ⟨by show 3 ≤ sizeLine; decide, fun t nt => ?_⟩
      have s1 := same_new nt (.tup [.str "ask", rv, pv])
      exact q _ _ (.ask r p) _ ⟨rok, dr⟩ ⟨t, rv, pv, rfl, upd_same, (hrv.mono (st2.tups g3)).same s1, hp.same s1⟩ (((g1.trans g2).trans g3).trans (st3.two TT s1)) (st3.same s1) (by omega)
    refine ⟨_, rfl, rfl, _, rfl, ?_⟩
    refine ite2 (fun c3 => ?_) (fun c3 => ?_)
    · refine ⟨_, rfl, _, rfl, S, C, Lf, _, 4, v, us, rfl, st1, by omega, hu1, uo, by decide, by decide, fun H2 rv r n2 rok g2 st2 n2l hrv => ?_⟩
      have tu2 := st1.tups g2
      refine ⟨_, rfl, _, rfl, _, rfl, _, _, rfl, rfl, ?_⟩
      dsimp only
      rw [dd]
      refine ⟨S, C, Lf, _, v, us, rfl, st2, by omega, hu1.mono tu2, uo, fun H3 pv p n3 dr hp g3 st3 n3l => ?_⟩
      refine ⟨by show 3 ≤ sizeLine; decide, fun t nt => ?_⟩
      have s1 := same_new nt (.tup [.str "bring", rv, pv])
      exact q _ _ (.bring r p) _ ⟨rok, dr⟩ ⟨t, rv, pv, rfl, upd_same, (hrv.mono (st2.tups g3)).same s1, hp.same s1⟩ (((g1.trans g2).trans g3).trans (st3.two TT s1)) (st3.same s1) (by omega)
    refine ⟨_, rfl, _, rfl, _, rfl, _, _, rfl, rfl, ?_⟩
    dsimp only
    rw [dd]
    refine ⟨S, C, Lf, _, v, us, rfl, st1, by omega, hu1, uo, fun H2 av a n2 dra ha g2 st2 n2l => ?_⟩
    have tu2 := st1.tups g2
    refine ⟨_, rfl, _, _, rfl, rfl, _, rfl, ?_⟩
    refine ite2 (fun c4 => ?_) (fun c4 => ?_)
    · refine ⟨_, rfl, _, rfl, _, rfl, _, rfl, _, _, rfl, rfl, ?_⟩
      dsimp only
      rw [dd]
      refine ⟨S, C, Lf, _, v, us, rfl, st2, by omega, hu1.mono tu2, uo, fun H3 bv b n3 drb hb g3 st3 n3l => ?_⟩
      refine ⟨by show 3 ≤ sizeLine; decide, fun t nt => ?_⟩
      have s1 := same_new nt (.tup [.str "either", av, bv])
      exact q _ _ (.either a b) _ ⟨dra, drb⟩ ⟨t, av, bv, rfl, upd_same, (ha.mono (st2.tups g3)).same s1, hb.same s1⟩ (((g1.trans g2).trans g3).trans (st3.two TT s1)) (st3.same s1) (by omega)
    · refine ⟨_, rfl, _, rfl, _, rfl, _, rfl, _, _, rfl, rfl, ?_⟩
      dsimp only
      rw [dd]
      refine ⟨S, C, Lf, _, v, us, rfl, st2, by omega, hu1.mono tu2, uo, fun H3 bv b n3 drb hb g3 st3 n3l => ?_⟩
      refine ⟨by show 3 ≤ sizeLine; decide, fun t nt => ?_⟩
      have s1 := same_new nt (.tup [.str "ours", av, bv])
      exact q _ _ (.ours a b) _ ⟨dra, drb⟩ ⟨t, av, bv, rfl, upd_same, (ha.mono (st2.tups g3)).same s1, hb.same s1⟩ (((g1.trans g2).trans g3).trans (st3.two TT s1)) (st3.same s1) (by omega)
theorem scWChosen : FnScope ["_law_rows", "_law_found", "_law_row_here"] ["_law_rows"] (defScope sWChosen) := ⟨rfl, rfl, rfl, by decide +kernel, rfl, by decide +kernel, by decide +kernel⟩
theorem ok_wChosen (T : Wd K mg) : FnOk P w K mg base CX0 1 T.wChosen.f T.wChosen.fd ["_law_rows"] spChosen := by
  refine T.wChosen.F.ok scWChosen (fun vs H Q E h => ?_) (fun cdv A outer s H vs Q E hr h => ⟨_, (pss_cons (ps_set (i := 1) scWChosen.nd rfl (.inl rfl) (pe_tup (pa_cons pe_str (pa_cons (pe_ix ix_list (pv 0) (pe_un un_neg pe_int) (fun _ _ => rfl)) (pa_cons (pe_tup (pa_cons pe_str pa_nil)) pa_nil)))))
 (pss_cons (ps_for PassesOwn.never rfl (pi_list (pe_revL2 (pv 0))) (pg_name (i := 2) scWChosen.nd rfl (.inl rfl)) (pss_one (ps_set (i := 1) scWChosen.nd rfl (.inl rfl) (pe_tup (pa_cons pe_str (pa_cons (pe_tup (pa_cons pe_str (pa_cons (pv 2) (pa_cons (pe_tup (pa_cons pe_str pa_nil)) pa_nil)))) (pa_cons (pv 1) pa_nil)))))))
 (pss_one (ps_ret (pv 1))))), ?_⟩)
  · obtain ⟨v, rs, rfl, _⟩ := h
    rfl
  obtain ⟨_, rs, rfl, ⟨l, vs, rfl, hl, hr2⟩, ne, hz, k⟩ := h
  have pl := paired_length hr2
  obtain ⟨rs', r, rfl⟩ : ∃ rs' r, rs = rs' ++ [r] := by
    rcases List.eq_nil_or_concat rs with e | ⟨a, b, e⟩
    · exact absurd e ne
    · exact ⟨a, b, by rw [e, List.concat_eq_append]⟩
  obtain ⟨vs', v, rfl, hr3, tv⟩ := paired_snoc hr2
  refine ⟨_, rfl, 1, rfl, l, _, -1, v, rfl, rfl, SqL.of hl, atI_last _ _, ?_⟩
  refine ⟨by show 1 ≤ sizeLine; decide, fun t0 n0 => ⟨by show 3 ≤ sizeLine; decide, fun t1 n1 => ?_⟩⟩
  have s0 := same_new n0 (.tup [.str "end"])
  have s1 := same_new n1 (.tup [.str "ask", v, .ref t0])
  have s01 := s0.trans s1
  have e0 := s1 _ _ (upd_same (H := H) (a := t0) (o := .tup [.str "end"]))
  refine ⟨_, rfl, l, _, rfl, SqL.of (s01 _ _ hl), fun m nm => ?_⟩
  rw [List.dropLast_concat]
  have s2 := same_new nm (.lst vs'.reverse)
  have s02 := s01.trans s2
  refine ⟨m, rfl, ⟨_, SqL.of upd_same⟩, for_list (xs := vs'.reverse) (fun i σ H' => ∃ fv v2, σ = [some (.ref l), some fv, v2] ∧ Same (upd (upd (upd H t0 (.tup [.str "end"])) t1 (.tup [.str "ask", v, .ref t0])) m (.lst vs'.reverse)) H' ∧ (chosenM (rs'.drop (rs'.length - i) ++ [r])).At H' fv)
    ⟨.ref t1, none, rfl, Same.refl _, ?_⟩ (fun i σ H' _ ⟨_, _, _, s3, _⟩ => SqL.of (s3 _ _ upd_same)) ?_ ?_⟩
  · rw [Nat.sub_zero, List.drop_length]
    exact ⟨t1, v, .ref t0, rfl, s2 _ _ upd_same, (tv.same s02), ⟨t0, rfl, s2 _ _ e0⟩⟩
  · rintro i x σ H' hx ⟨fv, v2, rfl, s3, hp⟩
    have pl3 := paired_length hr3
    have hi : i < vs'.length := by
      have := (List.getElem?_eq_some_iff.mp hx).1
      simpa using this
    rw [List.getElem?_reverse hi] at hx
    obtain ⟨y, hy, ty⟩ := Rws.nth hr3 hx
    have ty2 := (ty.same s02).same s3
    refine ⟨_, rfl, by show 1 ≤ sizeLine; decide, fun t6 n6 => ⟨by show 3 ≤ sizeLine; decide, fun t7 n7 => ⟨_, rfl, by show 3 ≤ sizeLine; decide, fun t8 n8 => ?_⟩⟩⟩
    have s6 := same_new n6 (.tup [.str "end"])
    have s7 := same_new n7 (.tup [.str "ask", x, .ref t6])
    have s8 := same_new n8 (.tup [.str "ours", .ref t7, fv])
    have s68 := (s6.trans s7).trans s8
    refine ⟨_, _, rfl, s3.trans s68, ?_⟩
    have hd : rs'.drop (rs'.length - (i + 1)) = y :: rs'.drop (rs'.length - i) := by
      have e1 : rs'.length - (i + 1) = vs'.length - 1 - i := by omega
      rw [e1]
      obtain ⟨h1, h2⟩ := List.getElem?_eq_some_iff.mp hy
      rw [List.drop_eq_getElem_cons h1, h2]
      congr 2
      omega
    rw [hd]
    have cons : ∀ (zs : List Row), chosenM (y :: (zs ++ [r])) = .ours (.ask y .fin) (chosenM (zs ++ [r])) := by
      intro zs
      cases zs <;> rfl
    show (chosenM (y :: (rs'.drop (rs'.length - i) ++ [r]))).At _ _
    rw [cons]
    exact ⟨t8, .ref t7, fv, rfl, upd_same, ⟨t7, x, .ref t6, rfl, s8 _ _ upd_same, ty2.same s68, ⟨t6, rfl, s8 _ _ (s7 _ _ upd_same)⟩⟩, hp.same s68⟩
  · rintro σ H' ⟨fv, v2, rfl, s3, hp⟩
    have pl3 := paired_length hr3
    rw [List.length_reverse, pl3, Nat.sub_self, List.drop_zero] at hp
    exact ⟨_, rfl, k H' _ (s02.trans s3) hp⟩
end
end K40
end
section
set_option Elab.async false
set_option linter.all false
set_option autoImplicit false
set_option maxRecDepth 100000
/-! The mirror: cuts. -/
namespace K40
open PySem PySem.Spec PyProof.Rows L2
def cutAt (us : List Int) (r : Row) (i : Nat) : Row := (r.set i (r.getD i 0 - 1)).set (i + 1) (r.getD (i + 1) 0 + us.getD i 0)
inductive Reach (us : List Int) (r : Row) : Row → Prop
  | refl : Reach us r r
  | step {x : Row} (i : Nat) (h : Reach us r x) (hi : i < us.length) (hp : 0 < x.getD i 0) : Reach us r (cutAt us x i)
theorem cutAt_length (us : List Int) (r : Row) (i : Nat) : (cutAt us r i).length = r.length := by
  unfold cutAt
  rw [List.length_set, List.length_set]
theorem dot_cut : ∀ (us : List Int) (x : Row) (i : Nat), x.length = us.length + 1 → i < us.length → dot (cutAt us x i) (sizesM us) = dot x (sizesM us)
  | u :: us, a :: b :: xs, 0, h, _ => by
    have e : sizesM us = (sizesM us).headD 1 :: (sizesM us).tail := by
      cases us <;> rfl
    show dot ((a - 1) :: (b + u) :: xs) ((sizesM us).headD 1 * u :: sizesM us) = dot (a :: b :: xs) ((sizesM us).headD 1 * u :: sizesM us)
    rw [e]
    simp only [dot, List.headD_cons, Int.sub_mul, Int.add_mul, Int.one_mul]
    have : (sizesM us).headD 1 * u = u * (sizesM us).headD 1 := Int.mul_comm _ _
    omega
  | u :: us, [a], 0, h, _ => by simp at h
  | u :: us, a :: xs, i + 1, h, hi => by
    have ih := dot_cut us xs i (by simpa using h) (by simpa using hi)
    show dot (a :: cutAt us xs i) ((sizesM us).headD 1 * u :: sizesM us) = dot (a :: xs) ((sizesM us).headD 1 * u :: sizesM us)
    simp only [dot, ih]
theorem getD_set_self {l : List Int} {i : Nat} {v : Int} (h : i < l.length) : (l.set i v).getD i 0 = v := by
  rw [List.getD_eq_getElem?_getD, List.getElem?_set_self h]
  rfl
theorem cutAt_nonneg {us : List Int} {x : Row} {i : Nat} (h : ∀ y ∈ x, 0 ≤ y) (hp : 0 < x.getD i 0) (hu : ∀ u ∈ us, 0 ≤ u) : ∀ y ∈ cutAt us x i, 0 ≤ y := by
  intro y hy
  unfold cutAt at hy
  have gx : ∀ j, 0 ≤ x.getD j 0 := fun j => by
    rw [List.getD_eq_getElem?_getD]
    cases e : x[j]? with
    | none => simp
    | some z => simpa using h z (List.mem_of_getElem? e)
  have gu : ∀ j, 0 ≤ us.getD j 0 := fun j => by
    rw [List.getD_eq_getElem?_getD]
    cases e : us[j]? with
    | none => simp
    | some z => simpa using hu z (List.mem_of_getElem? e)
  rcases List.mem_or_eq_of_mem_set hy with m | e
  · rcases List.mem_or_eq_of_mem_set m with m | e
    · exact h y m
    · omega
  · have := gx (i + 1)
    have := gu i
    omega
theorem Reach.ok {us : List Int} {r x : Row} (h : Reach us r x) (hl : r.length = us.length + 1) (hn : ∀ y ∈ r, 0 ≤ y) (hu : ∀ u ∈ us, 0 ≤ u) : x.length = us.length + 1 ∧ (∀ y ∈ x, 0 ≤ y) ∧ dot x (sizesM us) = dot r (sizesM us) := by
  induction h with
  | refl => exact ⟨hl, hn, rfl⟩
  | step i _ hi hp ih =>
    obtain ⟨h1, h2, h3⟩ := ih
    exact ⟨by rw [cutAt_length, h1], cutAt_nonneg h2 hp hu, by rw [dot_cut us _ i h1 hi, h3]⟩
theorem dot_ge : ∀ (x s : List Int), (∀ y ∈ x, 0 ≤ y) → (∀ z ∈ s, 1 ≤ z) → x.length ≤ s.length → 0 ≤ dot x s ∧ ∀ y ∈ x, y ≤ dot x s
  | [], s, _, _, _ => ⟨by cases s <;> simp [dot], fun y hy => by simp at hy⟩
  | a :: x, b :: s, h1, h2, hl => by
    obtain ⟨i1, i2⟩ := dot_ge x s (fun y hy => h1 y (List.mem_cons_of_mem _ hy)) (fun z hz => h2 z (List.mem_cons_of_mem _ hz)) (by simpa using hl)
    have a0 := h1 a (by simp)
    have b1 := h2 b (by simp)
    have ab : a ≤ a * b := by
      have := Int.mul_le_mul_of_nonneg_left b1 a0
      omega
    refine ⟨by simp only [dot]; omega, fun y hy => ?_⟩
    simp only [dot]
    rcases List.mem_cons.mp hy with e | m
    · omega
    · have := i2 y m
      omega
  | _ :: _, [], _, _, hl => by simp at hl
/-- how many rows of n places there are with numbers in 0 .. V -/
def code (V : Nat) : Row → Nat
  | [] => 0
  | x :: xs => x.toNat + (V + 1) * code V xs
theorem code_lt (V : Nat) : ∀ (r : Row), (∀ y ∈ r, 0 ≤ y ∧ y ≤ V) → code V r < (V + 1) ^ r.length
  | [], _ => by simp [code]
  | x :: xs, h => by
    have ih := code_lt V xs fun y hy => h y (List.mem_cons_of_mem _ hy)
    have hx := h x (by simp)
    simp only [code, List.length_cons, Nat.pow_succ]
    have : (V + 1) * code V xs + (V + 1) ≤ (V + 1) * (V + 1) ^ xs.length := by
      rw [← Nat.mul_succ]
      exact Nat.mul_le_mul_left _ ih
    rw [Nat.mul_comm ((V + 1) ^ xs.length)]
    omega
theorem code_inj (V : Nat) : ∀ (r s : Row), r.length = s.length → (∀ y ∈ r, 0 ≤ y ∧ y ≤ V) → (∀ y ∈ s, 0 ≤ y ∧ y ≤ V) → code V r = code V s → r = s
  | [], [], _, _, _, _ => rfl
  | x :: xs, y :: ys, hl, h1, h2, e => by
    have hx := h1 x (by simp)
    have hy := h2 y (by simp)
    simp only [code] at e
    have e1 : (x.toNat + (V + 1) * code V xs) % (V + 1) = (y.toNat + (V + 1) * code V ys) % (V + 1) := by rw [e]
    rw [Nat.add_mul_mod_self_left, Nat.add_mul_mod_self_left, Nat.mod_eq_of_lt (by omega), Nat.mod_eq_of_lt (by omega)] at e1
    have e2 : (V + 1) * code V xs = (V + 1) * code V ys := by omega
    have e3 := Nat.eq_of_mul_eq_mul_left (by omega) e2
    have := code_inj V xs ys (by simpa using hl) (fun z hz => h1 z (List.mem_cons_of_mem _ hz)) (fun z hz => h2 z (List.mem_cons_of_mem _ hz)) e3
    rw [this, show x = y by omega]
theorem nodup_lt : ∀ (M : Nat) (l : List Nat), l.Nodup → (∀ x ∈ l, x < M) → l.length ≤ M
  | 0, l, _, h => by
    cases l with
    | nil => simp
    | cons x xs => exact absurd (h x (by simp)) (by omega)
  | M + 1, l, hn, h => by
    by_cases m : M ∈ l
    · have := nodup_lt M (l.erase M) (hn.erase M) fun x hx => by
        have h1 := h x (List.mem_of_mem_erase hx)
        have h2 := (List.Nodup.mem_erase_iff hn).mp hx
        omega
      rw [List.length_erase_of_mem m] at this
      omega
    · have := nodup_lt M l hn fun x hx => by
        have h1 := h x hx
        have : x ≠ M := fun e => m (e ▸ hx)
        omega
      omega
theorem rows_count (V n : Nat) (rs : List Row) (hn : rs.Nodup) (h : ∀ r ∈ rs, r.length = n ∧ ∀ y ∈ r, 0 ≤ y ∧ y ≤ (V : Int)) : rs.length ≤ (V + 1) ^ n := by
  have key : (rs.map (code V)).Nodup := by
    unfold List.Nodup at hn ⊢
    rw [List.pairwise_map]
    exact hn.imp_of_mem fun {a b} ha hb ne e => ne (code_inj V a b (by rw [(h a ha).1, (h b hb).1]) (h a ha).2 (h b hb).2 e)
  have := nodup_lt ((V + 1) ^ n) (rs.map (code V)) key fun x hx => by
    obtain ⟨r, hr, rfl⟩ := List.mem_map.mp hx
    have := code_lt V r (h r hr).2
    rw [(h r hr).1] at this
    exact this
  simpa using this
end K40
end
section
set_option Elab.async false
set_option linter.all false
set_option autoImplicit false
set_option maxRecDepth 100000
/-! Mathematics: stairs and cuts. -/
namespace K40
open PySem PySem.Spec PyProof.Rows L2
def leL : List Int → List Int → Prop
  | [], [] => True
  | a :: as, b :: bs => a ≤ b ∧ leL as bs
  | _, _ => False
theorem leL.refl : ∀ a, leL a a
  | [] => trivial
  | x :: xs => ⟨Int.le_refl _, leL.refl xs⟩
theorem leL.trans : ∀ {a b c}, leL a b → leL b c → leL a c
  | [], [], [], _, _ => trivial
  | _ :: _, _ :: _, _ :: _, h, k => ⟨Int.le_trans h.1 k.1, leL.trans h.2 k.2⟩
theorem leL.len : ∀ {a b}, leL a b → a.length = b.length
  | [], [], _ => rfl
  | _ :: _, _ :: _, h => by rw [List.length_cons, List.length_cons, leL.len h.2]
theorem leL.antisymm : ∀ {a b}, leL a b → leL b a → a = b
  | [], [], _, _ => rfl
  | x :: _, y :: _, h, k => by rw [leL.antisymm h.2 k.2, show x = y from Int.le_antisymm h.1 k.1]
theorem within_iff : ∀ {a b : List Int}, a.length = b.length → (within a b = true ↔ leL a b)
  | [], [], _ => by simp [within, zsub, geZ, leL]
  | x :: xs, y :: ys, h => by
    have ih := within_iff (a := xs) (b := ys) (by simpa using h)
    unfold within zsub geZ at ih ⊢
    simp only [List.zipWith_cons_cons, List.all_cons, Bool.and_eq_true, decide_eq_true_eq, leL]
    rw [ih]
    constructor
    · rintro ⟨h1, h2⟩
      exact ⟨by omega, h2⟩
    · rintro ⟨h1, h2⟩
      exact ⟨by omega, h2⟩
/-- nonnegative -/
def nn (a : List Int) : Prop := ∀ x ∈ a, 0 ≤ x
theorem nn.tail {x : Int} {xs : List Int} (h : nn (x :: xs)) : nn xs := fun y hy => h y (List.mem_cons_of_mem _ hy)
theorem nn.head {x : Int} {xs : List Int} (h : nn (x :: xs)) : 0 ≤ x := h x (by simp)
theorem geZ_iff {a : List Int} : geZ a = true ↔ nn a := by
  unfold geZ nn
  simp
/-- the stair, a carry before it -/
def stairC : List Int → Int → Row → List Int
  | u :: us, c, x :: xs => (c + x) :: stairC us (u * (c + x)) xs
  | [], c, x :: _ => [c + x]
  | _, _, [] => []
theorem goF_stairC : ∀ (us : List Int) (l : Int) (xs : List Int), xs.length = us.length → goF (fun u l x => u * l + x) us l xs = match us with | [] => [] | u :: us' => stairC us' (u * l) xs
  | [], l, [], _ => rfl
  | u :: us, l, x :: xs, h => by
    have ih := goF_stairC us (u * l + x) xs (by simpa using h)
    show (u * l + x) :: goF _ us (u * l + x) xs = _
    rw [ih]
    cases us with
    | nil =>
      cases xs with
      | nil => rfl
      | cons _ _ => simp at h
    | cons v vs => rfl
theorem stair_eq {us : List Int} {r : Row} (h : r.length = us.length + 1) : stair us r = stairC us 0 r := by
  match r, h with
  | x :: xs, h =>
    show x :: goF _ us x xs = _
    rw [goF_stairC us x xs (by simpa using h)]
    cases us with
    | nil => simp [stairC]
    | cons u us => simp [stairC]
theorem stairC_length : ∀ (us : List Int) (c : Int) (r : Row), r.length = us.length + 1 → (stairC us c r).length = us.length + 1
  | [], c, [x], _ => rfl
  | u :: us, c, x :: xs, h => by
    show (stairC us _ xs).length + 1 = _
    rw [stairC_length us _ xs (by simpa using h)]
    rfl
/-- a cut lowers one step -/
theorem stairC_cut : ∀ (us : List Int) (c : Int) (x : Row) (i : Nat), x.length = us.length + 1 → i < us.length → leL (stairC us c (cutAt us x i)) (stairC us c x) ∧ (stairC us c (cutAt us x i)).sum + 1 = (stairC us c x).sum ∧ (stairC us c (cutAt us x i)).getLastD 0 = (stairC us c x).getLastD 0
  | u :: us, c, a :: b :: xs, 0, h, _ => by
    have e : stairC us (u * (c + (a - 1))) ((b + u) :: xs) = stairC us (u * (c + a)) (b :: xs) := by
      have e1 : u * (c + (a - 1)) + (b + u) = u * (c + a) + b := by
        have : u * (c + (a - 1)) = u * (c + a) - u := by
          rw [show c + (a - 1) = (c + a) - 1 by omega, Int.mul_sub, Int.mul_one]
        omega
      cases us with
      | nil => simp [stairC, e1]
      | cons v vs => simp [stairC, e1]
    have e2 : stairC (u :: us) c (cutAt (u :: us) (a :: b :: xs) 0) = (c + (a - 1)) :: stairC us (u * (c + a)) (b :: xs) := by
      show (c + (a - 1)) :: stairC us (u * (c + (a - 1))) ((b + u) :: xs) = _
      rw [e]
    have hne : stairC us (u * (c + a)) (b :: xs) ≠ [] := by
      cases us <;> simp [stairC]
    rw [e2]
    show leL _ ((c + a) :: stairC us (u * (c + a)) (b :: xs)) ∧ _ = ((c + a) :: stairC us (u * (c + a)) (b :: xs)).sum ∧ _ = ((c + a) :: stairC us (u * (c + a)) (b :: xs)).getLastD 0
    refine ⟨⟨by omega, .refl _⟩, by simp only [List.sum_cons]; omega, ?_⟩
    match stairC us (u * (c + a)) (b :: xs), hne with
    | y :: ys, _ => rfl
  | u :: us, c, [a], 0, h, _ => by simp at h
  | u :: us, c, a :: xs, i + 1, h, hi => by
    obtain ⟨i1, i2, i3⟩ := stairC_cut us (u * (c + a)) xs i (by simpa using h) (by simpa using hi)
    have hl := stairC_length us (u * (c + a)) xs (by simpa using h)
    have e1 : stairC (u :: us) c (cutAt (u :: us) (a :: xs) (i + 1)) = (c + a) :: stairC us (u * (c + a)) (cutAt us xs i) := rfl
    have e2 : stairC (u :: us) c (a :: xs) = (c + a) :: stairC us (u * (c + a)) xs := rfl
    rw [e1, e2]
    refine ⟨⟨Int.le_refl _, i1⟩, by simp only [List.sum_cons]; omega, ?_⟩
    have hl2 := leL.len i1
    match h1 : stairC us (u * (c + a)) (cutAt us xs i), h2 : stairC us (u * (c + a)) xs with
    | y :: ys, z :: zs =>
      rw [h1, h2] at i3
      exact i3
    | [], [] => rfl
    | [], _ :: _ => rw [h1, h2] at hl2; simp at hl2
    | _ :: _, [] => rw [h1, h2] at hl2; simp at hl2
theorem Reach.stairC {us : List Int} {r x : Row} (h : Reach us r x) (hl : r.length = us.length + 1) : x.length = us.length + 1 ∧ leL (stairC us 0 x) (stairC us 0 r) ∧ (K40.stairC us 0 x).getLastD 0 = (K40.stairC us 0 r).getLastD 0 := by
  induction h with
  | refl => exact ⟨hl, .refl _, rfl⟩
  | step i _ hi hp ih =>
    obtain ⟨h1, h2, h3⟩ := ih
    obtain ⟨c1, _, c3⟩ := stairC_cut us 0 _ i h1 hi
    exact ⟨by rw [cutAt_length, h1], c1.trans h2, c3.trans h3⟩
theorem leL.sum : ∀ {a b}, leL a b → a.sum ≤ b.sum
  | [], [], _ => Int.le_refl _
  | x :: xs, y :: ys, h => by
    have := leL.sum h.2
    have := h.1
    simp only [List.sum_cons]
    omega
theorem getLastD_cons {x : Int} {xs : List Int} (h : xs ≠ []) : (x :: xs).getLastD 0 = xs.getLastD 0 := by
  match xs, h with
  | y :: ys, _ => rfl
theorem stairC_ne {us : List Int} {c : Int} {r : Row} (h : r.length = us.length + 1) : stairC us c r ≠ [] := by
  intro z
  have := stairC_length us c r h
  rw [z] at this
  simp at this
/-- the next cut on the way from x down to q -/
theorem next_cut : ∀ (us : List Int) (c : Int) (q x : Row), q.length = us.length + 1 → x.length = us.length + 1 → nn q → leL (stairC us c q) (stairC us c x) → (stairC us c q).getLastD 0 = (stairC us c x).getLastD 0 →
    q = x ∨ ∃ i, i < us.length ∧ 0 < x.getD i 0 ∧ leL (stairC us c q) (stairC us c (cutAt us x i))
  | [], c, [a], [b], _, _, _, _, e => by
    have e' : c + a = c + b := e
    exact .inl (by rw [show a = b by omega])
  | u :: us, c, a :: q, b :: x, hq, hx, hn, hle, he => by
    have lq := stairC_ne (us := us) (c := u * (c + a)) (r := q) (by simpa using hq)
    have lx := stairC_ne (us := us) (c := u * (c + b)) (r := x) (by simpa using hx)
    have h1 : c + a ≤ c + b := hle.1
    have h2 : leL (stairC us (u * (c + a)) q) (stairC us (u * (c + b)) x) := hle.2
    by_cases ab : a = b
    · subst ab
      have e2 : (stairC us (u * (c + a)) q).getLastD 0 = (stairC us (u * (c + a)) x).getLastD 0 := by
        have e : ((c + a) :: stairC us (u * (c + a)) q).getLastD 0 = ((c + a) :: stairC us (u * (c + a)) x).getLastD 0 := he
        rw [getLastD_cons lq, getLastD_cons lx] at e
        exact e
      rcases next_cut us (u * (c + a)) q x (by simpa using hq) (by simpa using hx) hn.tail h2 e2 with r | ⟨i, hi, hp, hl⟩
      · exact .inl (by rw [r])
      · exact .inr ⟨i + 1, by simpa using hi, hp, ⟨Int.le_refl _, hl⟩⟩
    · have ha := hn.head
      refine .inr ⟨0, by simp, by show 0 < b; omega, ?_⟩
      match x, hx with
      | y :: ys, hx =>
        have e : stairC us (u * (c + (b - 1))) ((y + u) :: ys) = stairC us (u * (c + b)) (y :: ys) := by
          have e1 : u * (c + (b - 1)) + (y + u) = u * (c + b) + y := by
            have : u * (c + (b - 1)) = u * (c + b) - u := by
              rw [show c + (b - 1) = (c + b) - 1 by omega, Int.mul_sub, Int.mul_one]
            omega
          cases us with
          | nil => simp [stairC, e1]
          | cons v vs => simp [stairC, e1]
        show leL ((c + a) :: stairC us (u * (c + a)) q) ((c + (b - 1)) :: stairC us (u * (c + (b - 1))) ((y + u) :: ys))
        rw [e]
        exact ⟨by omega, h2⟩
theorem cut_all {us : List Int} {r q : Row} {rs : List Row} (own : r ∈ rs) (lens : ∀ x ∈ rs, x.length = us.length + 1 ∧ (stairC us 0 x).getLastD 0 = (stairC us 0 r).getLastD 0) (shut : ∀ x ∈ rs, ∀ i, i < us.length → 0 < x.getD i 0 → cutAt us x i ∈ rs)
    (hq : q.length = us.length + 1) (hn : nn q) (hle : leL (stairC us 0 q) (stairC us 0 r)) (he : (stairC us 0 q).getLastD 0 = (stairC us 0 r).getLastD 0) : q ∈ rs := by
  have go : ∀ (n : Nat) (x : Row), x ∈ rs → leL (stairC us 0 q) (stairC us 0 x) → (stairC us 0 x).sum - (stairC us 0 q).sum = (n : Int) → q ∈ rs := by
    intro n
    induction n with
    | zero =>
      intro x hx hl hs
      obtain ⟨l1, l2⟩ := lens x hx
      rcases next_cut us 0 q x hq l1 hn hl (by rw [he, l2]) with e | ⟨i, hi, hp, hl2⟩
      · rw [e]
        exact hx
      · have h1 := (stairC_cut us 0 x i l1 hi).2.1
        have h2 := hl2.sum
        omega
    | succ n ih =>
      intro x hx hl hs
      obtain ⟨l1, l2⟩ := lens x hx
      rcases next_cut us 0 q x hq l1 hn hl (by rw [he, l2]) with e | ⟨i, hi, hp, hl2⟩
      · rw [e]
        exact hx
      · have h1 := (stairC_cut us 0 x i l1 hi).2.1
        exact ih _ (shut x hx i hi hp) hl2 (by omega)
  have h := hle.sum
  obtain ⟨n, hn2⟩ : ∃ n : Nat, (stairC us 0 r).sum - (stairC us 0 q).sum = n := ⟨((stairC us 0 r).sum - (stairC us 0 q).sum).toNat, by omega⟩
  exact go n r own hle hn2
end K40
end
section
set_option Elab.async false
set_option linter.all false
set_option autoImplicit false
set_option maxRecDepth 100000
/-! Mathematics: up, down, what lives. -/
namespace K40
open PySem PySem.Spec PyProof.Rows L2
def pos1 (us : List Int) : Prop := ∀ u ∈ us, 1 ≤ u
theorem pos1.tail {u : Int} {us : List Int} (h : pos1 (u :: us)) : pos1 us := fun v hv => h v (List.mem_cons_of_mem _ hv)
theorem UOk.pos1 {us : List Int} (u : UOk us) : K40.pos1 us := fun v hv => by have := u.lo v hv; omega
/-- back from a stair, a carry before it -/
def rowC : List Int → Int → List Int → Row
  | u :: us, c, y :: ys => (y - c) :: rowC us (u * y) ys
  | [], c, y :: _ => [y - c]
  | _, _, [] => []
theorem rowC_length : ∀ (us : List Int) (c : Int) (y : List Int), y.length = us.length + 1 → (rowC us c y).length = us.length + 1
  | [], c, [x], _ => rfl
  | u :: us, c, x :: xs, h => by
    show (rowC us _ xs).length + 1 = _
    rw [rowC_length us _ xs (by simpa using h)]
    rfl
theorem stair_row : ∀ (us : List Int) (c : Int) (y : List Int), y.length = us.length + 1 → stairC us c (rowC us c y) = y
  | [], c, [x], _ => by
    show [c + (x - c)] = [x]
    rw [show c + (x - c) = x by omega]
  | u :: us, c, x :: xs, h => by
    show (c + (x - c)) :: stairC us (u * (c + (x - c))) (rowC us (u * x) xs) = _
    rw [show c + (x - c) = x by omega, stair_row us (u * x) xs (by simpa using h)]
theorem row_stair : ∀ (us : List Int) (c : Int) (r : Row), r.length = us.length + 1 → rowC us c (stairC us c r) = r
  | [], c, [x], _ => by
    show [c + x - c] = [x]
    rw [show c + x - c = x by omega]
  | u :: us, c, x :: xs, h => by
    show (c + x - c) :: rowC us (u * (c + x)) (stairC us (u * (c + x)) xs) = _
    rw [show c + x - c = x by omega, row_stair us _ xs (by simpa using h)]
theorem goB_rowC : ∀ (us : List Int) (l : Int) (xs : List Int), xs.length = us.length → goB us l xs = match us with | [] => [] | u :: us' => rowC us' (u * l) xs
  | [], l, [], _ => rfl
  | u :: us, l, x :: xs, h => by
    have ih := goB_rowC us x xs (by simpa using h)
    show (x - u * l) :: goB us x xs = _
    rw [ih]
    cases us with
    | nil =>
      cases xs with
      | nil => rfl
      | cons _ _ => simp at h
    | cons v vs => rfl
theorem row_eq {us : List Int} {y : List Int} (h : y.length = us.length + 1) : row us y = rowC us 0 y := by
  match y, h with
  | x :: xs, h =>
    show x :: goB us x xs = _
    rw [goB_rowC us x xs (by simpa using h)]
    cases us with
    | nil =>
      cases xs with
      | nil => simp [rowC]
      | cons _ _ => simp at h
    | cons u us => simp [rowC]
/-- a stair of a nonnegative row -/
structure IsSt (us : List Int) (y : List Int) : Prop where
  len : y.length = us.length + 1
  ok : nn (rowC us 0 y)
theorem isSt_of {us : List Int} {r : Row} (h : r.length = us.length + 1) (n : nn r) : IsSt us (stair us r) := by
  refine ⟨stair_length h, ?_⟩
  rw [stair_eq h, row_stair us 0 r h]
  exact n
theorem IsSt.stair {us : List Int} {y : List Int} (s : IsSt us y) : K40.stair us (row us y) = y := by
  have h := row_length s.len
  rw [stair_eq h, row_eq s.len, stair_row us 0 y s.len]
theorem IsSt.row {us : List Int} {y : List Int} (s : IsSt us y) : nn (K40.row us y) := by
  rw [row_eq s.len]
  exact s.ok
theorem row_of_stair {us : List Int} {r : Row} (h : r.length = us.length + 1) : row us (stair us r) = r := by
  rw [row_eq (stair_length h), stair_eq h, row_stair us 0 r h]
theorem chain_nn : ∀ (us : List Int) (c : Int) (y : List Int), pos1 us → 0 ≤ c → y.length = us.length + 1 → nn (rowC us c y) → nn y
  | [], c, [x], _, hc, _, h => fun z hz => by
    simp at hz
    have : 0 ≤ x - c := h.head
    omega
  | u :: us, c, x :: xs, hu, hc, hl, h => fun z hz => by
    have h1 : 0 ≤ x - c := nn.head h
    have hu1 := hu u (by simp)
    rcases List.mem_cons.mp hz with e | m
    · omega
    · have : 0 ≤ u * x := Int.mul_nonneg (by omega) (by omega)
      exact chain_nn us (u * x) xs hu.tail this (by simpa using hl) (nn.tail h) z m
theorem IsSt.nn {us : List Int} {y : List Int} (s : IsSt us y) (hu : pos1 us) : K40.nn y := chain_nn us 0 y hu (by decide) s.len s.ok
/-! ### sums and differences -/
theorem stairC_add : ∀ (us : List Int) (c d : Int) (a b : Row), a.length = us.length + 1 → b.length = us.length + 1 → stairC us (c + d) (zadd a b) = zadd (stairC us c a) (stairC us d b)
  | [], c, d, [x], [y], _, _ => by
    show [c + d + (x + y)] = [c + x + (d + y)]
    congr 1
    omega
  | u :: us, c, d, x :: xs, y :: ys, h1, h2 => by
    show (c + d + (x + y)) :: stairC us (u * (c + d + (x + y))) (zadd xs ys) = (c + x + (d + y)) :: zadd (stairC us (u * (c + x)) xs) (stairC us (u * (d + y)) ys)
    rw [show c + d + (x + y) = (c + x) + (d + y) by omega, Int.mul_add, stairC_add us _ _ xs ys (by simpa using h1) (by simpa using h2)]
theorem stair_add {us : List Int} {a b : Row} (h1 : a.length = us.length + 1) (h2 : b.length = us.length + 1) : stair us (zadd a b) = zadd (stair us a) (stair us b) := by
  rw [stair_eq h1, stair_eq h2, stair_eq (by rw [zadd_length (by omega), h1])]
  have := stairC_add us 0 0 a b h1 h2
  simpa using this
theorem zadd_zsub : ∀ {a b : List Int}, a.length = b.length → zadd (zsub a b) b = a
  | [], [], _ => rfl
  | x :: xs, y :: ys, h => by
    show (x - y + y) :: zadd (zsub xs ys) ys = _
    rw [zadd_zsub (by simpa using h), show x - y + y = x by omega]
theorem zsub_zadd : ∀ {a b : List Int}, a.length = b.length → zsub (zadd a b) b = a
  | [], [], _ => rfl
  | x :: xs, y :: ys, h => by
    show (x + y - y) :: zsub (zadd xs ys) ys = _
    rw [zsub_zadd (by simpa using h), show x + y - y = x by omega]
theorem leL_sub : ∀ {a b c : List Int}, a.length = c.length → b.length = c.length → (leL (zadd a b) c ↔ leL a (zsub c b))
  | [], [], [], _, _ => Iff.rfl
  | [], _ :: _, _, h1, h2 => by rw [← h1] at h2; simp at h2
  | _ :: _, [], _, h1, h2 => by rw [← h1] at h2; simp at h2
  | x :: xs, y :: ys, z :: zs, h1, h2 => by
    have ih := leL_sub (a := xs) (b := ys) (c := zs) (by simpa using h1) (by simpa using h2)
    constructor
    · rintro ⟨p, q⟩
      have p : x + y ≤ z := p
      exact ⟨by show x ≤ z - y; omega, ih.mp q⟩
    · rintro ⟨p, q⟩
      have p : x ≤ z - y := p
      exact ⟨by show x + y ≤ z; omega, ih.mpr q⟩
theorem leL_sub' : ∀ {a b c : List Int}, a.length = c.length → b.length = c.length → (leL (zsub a b) c ↔ leL a (zadd c b))
  | [], [], [], _, _ => Iff.rfl
  | [], _ :: _, _, h1, h2 => by rw [← h1] at h2; simp at h2
  | _ :: _, [], _, h1, h2 => by rw [← h1] at h2; simp at h2
  | x :: xs, y :: ys, z :: zs, h1, h2 => by
    have ih := leL_sub' (a := xs) (b := ys) (c := zs) (by simpa using h1) (by simpa using h2)
    constructor
    · rintro ⟨p, q⟩
      have p : x - y ≤ z := p
      exact ⟨by show x ≤ z + y; omega, ih.mp q⟩
    · rintro ⟨p, q⟩
      have p : x ≤ z + y := p
      exact ⟨by show x - y ≤ z; omega, ih.mpr q⟩
theorem zadd_comm : ∀ (a b : List Int), zadd a b = zadd b a
  | [], b => by cases b <;> rfl
  | _ :: _, [] => rfl
  | x :: xs, y :: ys => by
    show (x + y) :: zadd xs ys = (y + x) :: zadd ys xs
    rw [zadd_comm xs ys, Int.add_comm]
theorem leL_nn : ∀ {a b : List Int}, leL a b → nn a → nn b
  | [], [], _, h => h
  | x :: xs, y :: ys, h, n => fun z hz => by
    rcases List.mem_cons.mp hz with e | m
    · have := h.1
      have := n.head
      omega
    · exact leL_nn h.2 n.tail z m
theorem nn_sub : ∀ {a b : List Int}, a.length = b.length → (nn (zsub b a) ↔ leL a b) := fun {a b} h => by
  rw [← geZ_iff]
  exact within_iff h
theorem leL_zadd : ∀ {a b c d : List Int}, leL a c → leL b d → leL (zadd a b) (zadd c d)
  | [], b, [], d, _, _ => by
    cases b <;> cases d <;> trivial
  | x :: xs, [], y :: ys, [], _, _ => trivial
  | x :: xs, z :: zs, y :: ys, w :: ws, h, k => ⟨by show x + z ≤ y + w; have := h.1; have := k.1; omega, leL_zadd h.2 k.2⟩
theorem stairC_mono : ∀ (us : List Int) (c d : Int) (a b : Row), pos1 us → c ≤ d → leL a b → a.length = us.length + 1 → leL (stairC us c a) (stairC us d b)
  | [], c, d, [x], [y], _, h, k, _ => ⟨by have := k.1; omega, trivial⟩
  | u :: us, c, d, x :: xs, y :: ys, hu, h, k, hl => by
    have hk := k.1
    refine ⟨by omega, stairC_mono us _ _ xs ys hu.tail ?_ k.2 (by simpa using hl)⟩
    have := hu u (by simp)
    exact Int.mul_le_mul_of_nonneg_left (by omega) (by omega)
/-! ### down and up -/
theorem goD_le : ∀ (us D : List Int), D.length = us.length + 1 → leL (goD us D) D
  | [], D, _ => by
    show leL D D
    exact .refl _
  | u :: us, x :: xs, h => ⟨Int.min_le_left _ _, goD_le us xs (by simpa using h)⟩
theorem goD_ne (us D : List Int) (h : D.length = us.length + 1) : ∃ y ys, goD us D = y :: ys := by
  have := goD_length us D h
  match e : goD us D with
  | [] => rw [e] at this; simp at this
  | y :: ys => exact ⟨y, ys, rfl⟩
theorem goD_lastD : ∀ (us D : List Int), D.length = us.length + 1 → (goD us D).getLastD 0 = D.getLastD 0
  | [], D, _ => rfl
  | u :: us, x :: xs, h => by
    have h' : xs.length = us.length + 1 := by simpa using h
    obtain ⟨y, ys, e⟩ := goD_ne us xs h'
    have hx : xs ≠ [] := by
      intro z
      rw [z] at h'
      simp at h'
    show (min x _ :: goD us xs).getLastD 0 = _
    rw [getLastD_cons (by rw [e]; simp), getLastD_cons hx, goD_lastD us xs h']
theorem goD_nn : ∀ (us D : List Int), pos1 us → D.length = us.length + 1 → nn D → nn (goD us D)
  | [], D, _, _, h => h
  | u :: us, x :: xs, hu, hl, h => fun z hz => by
    have ih := goD_nn us xs hu.tail (by simpa using hl) h.tail
    obtain ⟨y, ys, e⟩ := goD_ne us xs (by simpa using hl)
    rcases List.mem_cons.mp hz with r | m
    · have h0 : 0 ≤ (goD us xs).headD 0 := by
        rw [e]
        exact ih y (by rw [e]; simp)
      have h1 := Int.ediv_nonneg h0 (by have := hu u (by simp); omega : 0 ≤ u)
      have h2 := h.head
      omega
    · exact ih z m
theorem goD_chain : ∀ (us D : List Int) (c : Int), pos1 us → D.length = us.length + 1 → c ≤ (goD us D).headD 0 → nn (rowC us c (goD us D))
  | [], [x], c, _, _, h => fun z hz => by
    have hz : z ∈ [x - c] := hz
    simp at hz
    have h : c ≤ x := h
    omega
  | u :: us, x :: xs, c, hu, hl, h => by
    have hu1 := hu u (by simp)
    have h : c ≤ min x ((goD us xs).headD 0 / u) := h
    have hd : u * min x ((goD us xs).headD 0 / u) ≤ (goD us xs).headD 0 := by
      have h1 : min x ((goD us xs).headD 0 / u) ≤ (goD us xs).headD 0 / u := Int.min_le_right _ _
      have h2 := Int.mul_le_mul_of_nonneg_left h1 (by omega : 0 ≤ u)
      have h3 := Int.mul_ediv_self_le (x := (goD us xs).headD 0) (k := u) (by omega)
      omega
    have ih := goD_chain us xs (u * min x ((goD us xs).headD 0 / u)) hu.tail (by simpa using hl) hd
    intro z hz
    rcases List.mem_cons.mp hz with e | m
    · omega
    · exact ih z m
theorem goD_great : ∀ (us D : List Int) (c : Int) (s : List Int), pos1 us → D.length = us.length + 1 → nn (rowC us c s) → leL s D → leL s (goD us D)
  | [], D, c, s, _, _, _, h => h
  | u :: us, x :: xs, c, s0 :: s, hu, hl, n, h => by
    have hu1 := hu u (by simp)
    have hl' : xs.length = us.length + 1 := by simpa using hl
    have n2 : nn (rowC us (u * s0) s) := nn.tail n
    have ih := goD_great us xs (u * s0) s hu.tail hl' n2 h.2
    refine ⟨?_, ih⟩
    obtain ⟨y, ys, e⟩ := goD_ne us xs hl'
    rw [e] at ih ⊢
    match s, ih with
    | t :: ts, ih =>
      have h1 : t ≤ y := ih.1
      have h2 : 0 ≤ t - u * s0 := by
        cases us with
        | nil => exact nn.head n2
        | cons v vs => exact nn.head n2
      have h3 : s0 ≤ y / u := by
        rw [Int.le_ediv_iff_mul_le (by omega)]
        have := Int.mul_comm s0 u
        omega
      have h4 := h.1
      show s0 ≤ min x (y / u)
      omega
def upC : List Int → Int → List Int → List Int
  | u :: us, c, x :: xs => max x c :: upC us (u * max x c) xs
  | [], c, x :: _ => [max x c]
  | _, _, [] => []
theorem goF_upC : ∀ (us : List Int) (l : Int) (xs : List Int), xs.length = us.length → goF (fun u l x => max x (u * l)) us l xs = match us with | [] => [] | u :: us' => upC us' (u * l) xs
  | [], l, [], _ => rfl
  | u :: us, l, x :: xs, h => by
    have ih := goF_upC us (max x (u * l)) xs (by simpa using h)
    show max x (u * l) :: goF _ us (max x (u * l)) xs = _
    rw [ih]
    cases us with
    | nil =>
      cases xs with
      | nil => rfl
      | cons _ _ => simp at h
    | cons v vs => rfl
theorem up_eq {us : List Int} {w : List Int} (h : w.length = us.length + 1) : up us w = upC us 0 w := by
  match w, h with
  | x :: xs, h =>
    show max 0 x :: goF _ us (max 0 x) xs = _
    rw [goF_upC us (max 0 x) xs (by simpa using h)]
    cases us with
    | nil =>
      cases xs with
      | nil => simp [upC, Int.max_comm]
      | cons _ _ => simp at h
    | cons u us => simp [upC, Int.max_comm]
theorem upC_le : ∀ (us : List Int) (c : Int) (w : List Int), w.length = us.length + 1 → leL w (upC us c w)
  | [], c, [x], _ => ⟨by show x ≤ max x c; omega, trivial⟩
  | u :: us, c, x :: xs, h => ⟨by show x ≤ max x c; omega, upC_le us _ xs (by simpa using h)⟩
theorem upC_chain : ∀ (us : List Int) (c : Int) (w : List Int), w.length = us.length + 1 → nn (rowC us c (upC us c w))
  | [], c, [x], _ => fun z hz => by
    have hz : z ∈ [max x c - c] := hz
    simp at hz
    omega
  | u :: us, c, x :: xs, h => by
    have ih := upC_chain us (u * max x c) xs (by simpa using h)
    intro z hz
    rcases List.mem_cons.mp hz with e | m
    · omega
    · exact ih z m
theorem upC_least : ∀ (us : List Int) (c c' : Int) (w s : List Int), pos1 us → c' ≤ c → w.length = us.length + 1 → nn (rowC us c s) → leL w s → leL (upC us c' w) s
  | [], c, c', [x], [y], _, hc, _, n, h => ⟨by
    have h1 := h.1
    have h2 : 0 ≤ y - c := nn.head n
    show max x c' ≤ y
    omega, trivial⟩
  | u :: us, c, c', x :: xs, y :: ys, hu, hc, hl, n, h => by
    have h1 := h.1
    have h2 : 0 ≤ y - c := nn.head n
    have hm : max x c' ≤ y := by omega
    have hu1 := hu u (by simp)
    exact ⟨hm, upC_least us (u * y) (u * max x c') xs ys hu.tail (Int.mul_le_mul_of_nonneg_left hm (by omega)) (by simpa using hl) (nn.tail n) h.2⟩
theorem up_isSt {us : List Int} {w : List Int} (h : w.length = us.length + 1) : IsSt us (up us w) := ⟨up_length h, by rw [up_eq h]; exact upC_chain us 0 w h⟩
theorem up_iff {us : List Int} {w s : List Int} (hu : pos1 us) (h : w.length = us.length + 1) (st : IsSt us s) : leL (up us w) s ↔ leL w s := by
  rw [up_eq h]
  exact ⟨fun k => (upC_le us 0 w h).trans k, fun k => upC_least us 0 0 w s hu (Int.le_refl _) h st.ok k⟩
theorem down_isSt {us : List Int} {D : List Int} (hu : pos1 us) (h : D.length = us.length + 1) (n : nn D) : IsSt us (goD us D) := by
  refine ⟨goD_length us D h, goD_chain us D 0 hu h ?_⟩
  obtain ⟨y, ys, e⟩ := goD_ne us D h
  have := goD_nn us D hu h n
  rw [e] at this ⊢
  exact this.head
theorem down_iff {us : List Int} {D s : List Int} (hu : pos1 us) (h : D.length = us.length + 1) (st : IsSt us s) : leL s (goD us D) ↔ leL s D :=
  ⟨fun k => k.trans (goD_le us D h), fun k => goD_great us D 0 s hu h st.ok k⟩
theorem up_of {us : List Int} {y : List Int} (hu : pos1 us) (s : IsSt us y) : up us y = y := by
  have h1 := (up_iff hu s.len s).mpr (.refl y)
  have h2 := upC_le us 0 y s.len
  rw [← up_eq s.len] at h2
  exact h1.antisymm h2
end K40
end
section
set_option Elab.async false
set_option linter.all false
set_option autoImplicit false
set_option maxRecDepth 100000
set_option maxHeartbeats 4000000
/-! {row: v}. -/
namespace K40
open PySem PySem.Spec PyProof.Rows L2
def tDisp1 (tk tv : TE) : TE := fun σ H Q => ∀ p, H p = none → tk σ (upd H p (.dT [])) fun x H1 => tv σ H1 fun v H2 => ∃ (r : List Key) (b : Addr), x = .ref b ∧ H2 b = some (.tup (r.map kV)) ∧ H2 p = some (.dT []) ∧ Q (.ref p) (upd H2 p (.dT [(r, v)]))
theorem pe_disp1 {X : Cx} {pos : Pos} {ke ve : Expr} {tk tv : TE} (hu : X.A.units + 1 < cLine) (hk : PE X ke tk) (hv : PE X ve tv) : PE X (.Dict [some ke] [ve] pos) (tDisp1 tk tv) := by
  refine ⟨fun pins s σ H Q I q => ?_⟩
  have hn := I.hok.fresh (Nat.le_refl s.heap.objs.size)
  have I1 : Inv X pins σ (upd H s.heap.objs.size (.dT [])) { s with heap := s.heap.push { cls := .type "dict", data := .dict #[] } } :=
    I.laid (a := s.heap.objs.size) (o := .dT []) (t' := s.toks) (fun _ _ z => Heap.get?_push_of_some _ z) (Nat.le_refl _) (dt_empty s.heap I.big)
  have zip := zip_pairTrees [some ke] [ve] X.env pos rfl rfl
  rw [arm_eval_Dict, zip, dictDisplay_pairs (pairTrees [some ke] [ve] X.env pos) (by intro z; cases z) (by show 1 < 17; decide)]
  refine wpAny_bind (wpAny_standAt (wpAny_bind ?_))
  unfold subDict
  refine wpAny_bind (wpAny_alloc ?_)
  refine wpAny_bind (wpAny_holding ?_)
  rw [if_pos (show (pairTrees [some ke] [ve] X.env pos).length ≤ 15 by show 1 ≤ 15; decide)]
  refine wpAny_bind (evalPairs_cons (thn (hk.run pins _ σ _ _ I1 (q _ hn)) fun u s1 ⟨x, H1, J1, rx, q1⟩ => wpAny_bind (thn (hv.run pins s1 σ H1 _ J1 q1) fun w s2 ⟨v, H2, J2, rv, r, b, ex, hb, hp, q2⟩ => wpAny_bind (wpAny_standAt (wpAny_pure (evalPairs_nil ?_))))))
  subst ex
  obtain rfl : u = Value.ref b := rx
  obtain ⟨z, hd, xs, rel, dd⟩ := dt_of J2.hok hp
  have ex : xs = [] := by
    cases rel
    rfl
  subst ex
  refine wpAny_holding ?_
  rw [List.forIn_cons]
  refine wpAny_bind (wpAny_bind (wpAny_bind (wpAny_dictSet_heap (hsz := Nat.zero_le _) (show (tupleKind (mixKind X.prog X.w)).room X.A from Nat.lt_of_succ_lt hu) (key_of J2.hok hb) dd fun h' dd' hs => wpAny_pure ?_)))
  dsimp only
  rw [List.forIn_nil]
  refine wpAny_pure (wpAny_pure (wpAny_pure (wpAny_pure ?_)))
  obtain ⟨oq, es, ep, hq, h2, h3, h4, _, h5⟩ := dd'
  have new : KT (upd H2 s.heap.objs.size (.dT [(r, v)])) [(r, v)] (storedH [] r b w) := by
    have put := (KT.put (H := H2) rel r hb rv).keeps (H' := upd H2 s.heap.objs.size (.dT [(r, v)])) fun c ys ec => by
      rw [upd_ne (ne_of ec hp (fun z => nomatch z))]
      exact ec
    exact put
  exact ⟨.ref s.heap.objs.size, upd H2 s.heap.objs.size (.dT [(r, v)]), d_write J2 (by rw [hp]; exact True.intro) hs ⟨oq, hq⟩ ⟨by show 1 ≤ sizeLine; decide, hd, _, new, oq, es, ep, hq, h2, h3, h4, h5⟩, rfl, q2⟩
end K40
end
section
set_option Elab.async false
set_option linter.all false
set_option autoImplicit false
set_option maxRecDepth 100000
set_option maxHeartbeats 4000000
/-! The law's cuts. -/
namespace K40
open PySem PySem.Spec PyProof.Rows L2 LamX
theorem val_keys {kvs : List (List Key × V)} {rs : List Row} (r : Row) (h : kvs.map (·.1) = keysR rs) : (valV kvs (r.map Sum.inl)).isSome = decide (r ∈ rs) := by
  unfold valV
  rw [Option.isSome_map]
  induction kvs generalizing rs with
  | nil =>
    cases rs with
    | nil => simp
    | cons _ _ => simp [keysR] at h
  | cons kv kvs ih =>
    cases rs with
    | nil => simp [keysR] at h
    | cons s ss =>
      have h1 : kv.1 = s.map Sum.inl := by
        have := List.cons.inj h
        exact this.1
      have h2 : kvs.map (·.1) = keysR ss := (List.cons.inj h).2
      rw [List.find?_cons]
      by_cases c : r = s
      · subst c
        rw [decide_eq_true h1]
        simp
      · have c2 : ¬ kv.1 = (r.map Sum.inl : List Key) := fun z => c (inl_inj (z.symm.trans h1))
        rw [decide_eq_false c2]
        simp only [List.mem_cons, c, false_or]
        exact ih h2
/-- small units, a row whose value is small -/
structure CutP (us : List Int) (r : Row) : Prop where
  uo : UOk us
  two : us.length ≤ 2
  len : r.length = us.length + 1
  pos : ∀ y ∈ r, 0 ≤ y
  val : dot r (sizesM us) ≤ 60
structure CutQ (us : List Int) (r : Row) (rs : List Row) : Prop where
  reach : ∀ x ∈ rs, Reach us r x
  own : r ∈ rs
  shut : ∀ x ∈ rs, ∀ i, i < us.length → 0 < x.getD i 0 → cutAt us x i ∈ rs
  few : rs.length ≤ 226981
theorem CutP.ok {us : List Int} {r x : Row} (p : CutP us r) (h : Reach us r x) : x.length = us.length + 1 ∧ (∀ y ∈ x, 0 ≤ y) ∧ dot x (sizesM us) = dot r (sizesM us) :=
  h.ok p.len p.pos fun u hu => by have := p.uo.lo u hu; omega
theorem CutP.few {us : List Int} {r : Row} (p : CutP us r) {rs : List Row} (hn : rs.Nodup) (h : ∀ x ∈ rs, Reach us r x) : rs.length ≤ 226981 := by
  have h1 := rows_count 60 (us.length + 1) rs hn fun x hx => by
    obtain ⟨a, b, c⟩ := p.ok (h x hx)
    have q := dot_ge x (sizesM us) b (fun z hz => (p.uo.sizes hz).1) (by rw [a, sizesM_length]; exact Nat.le_refl _)
    have hv := p.val
    exact ⟨a, fun y hy => ⟨b y hy, by have := q.2 y hy; omega⟩⟩
  have hz := p.two
  have e : (60 + 1) ^ (us.length + 1) ≤ 226981 := by
    have : ∀ k : Nat, k ≤ 2 → (60 + 1) ^ (k + 1) ≤ 226981 := by decide
    exact this _ hz
  omega
def spCuts : Sp := fun vs H Q _ => ∃ v1 v2 us r, vs = [v1, v2] ∧ TI H v1 us ∧ TI H v2 r ∧ CutP us r ∧ ∀ H' v rs, Same H H' → NewL H H' v rs → CutQ us r rs → Q v H'
theorem getD_at {l : List Int} {i : Nat} (h : i < l.length) : l[i]? = some (l.getD i 0) := by
  rw [List.getD_eq_getElem?_getD, List.getElem?_eq_getElem h]
  rfl
theorem mapAt {l : List Int} {i : Nat} (h : i < l.length) : (l.map V.int)[i]? = some (V.int (l.getD i 0)) := by
  rw [List.getElem?_map, getD_at h]
  rfl
theorem addKey_nodup {rs : List Row} {r : Row} (hn : rs.Nodup) : (addKey rs r).Nodup := by
  unfold addKey
  split
  · exact hn
  · rename_i h
    rw [List.nodup_append]
    refine ⟨hn, by simp, fun a ha b hb e => ?_⟩
    simp at hb
    subst hb e
    exact h ha
section
variable {P : Program} {w : World} {K : PySem.W.Frag} {mg : Str → Option Value} {base : Heap}
theorem scWCuts : FnScope ["_law_units_so", "_law_row_here", "_law_found", "_law_seen", "_law_at", "_law_here", "_law_place", "_law_near"] ["_law_units_so", "_law_row_here"] (defScope sWCuts) := ⟨rfl, rfl, rfl, by decide +kernel, rfl, by decide +kernel, by decide +kernel⟩
theorem ok_wCuts (T : Wd K mg) : FnOk P w K mg base CX0 1 T.wCuts.f T.wCuts.fd ["_law_units_so", "_law_row_here"] spCuts := by
  refine T.wCuts.F.ok scWCuts (fun vs H Q E h => ?_) (fun cdv A outer s H vs Q E hr h => ⟨_, (pss_cons (ps_par3 (i := 2) (j := 3) (l := 4) rfl scWCuts.nd rfl rfl rfl (by decide) (by decide) (by decide) rfl rfl rfl (pa_cons (pe_lst (pa_cons (pv 1) pa_nil)) (pa_cons (pe_disp1 (hu_of hr) (pv 1) pe_bl) (pa_cons pe_int pa_nil))) rfl)
 (pss_cons (ps_while PassesOwn.never (pt_cmpR op_lt (pv 4) (pe_callB call_len_seq (by rfl) T.nLen (by decide +kernel) (pa_cons (pv 2) pa_nil)) (nomark _)) (pss_cons (ps_par (i := 5) (j := 4) rfl scWCuts.nd rfl rfl (by decide) rfl rfl (pa_cons (pe_ix ix_list (pv 2) (pv 4) (fun _ _ => rfl)) (pa_cons (pe_op op_add (pv 4) pe_int) pa_nil)) rfl)
 (pss_one (ps_for PassesOwn.never rfl (pi_range1 rfl T.nRange (pa_cons (pe_callB call_len_seq (by rfl) T.nLen (by decide +kernel) (pa_cons (pv 0) pa_nil)) pa_nil)) (pg_name (i := 6) scWCuts.nd rfl (.inl rfl)) (pss_one (ps_if (pt_cmpR op_gt (pe_ix ix_tup (pv 5) (pv 6) (fun _ _ => rfl)) pe_int (nomark _)) (pss_cons (ps_set (i := 7) scWCuts.nd rfl (.inl rfl) (pe_callTy call_list_of (by rfl) T.nList (by decide +kernel) (pa_cons (pv 5) pa_nil)))
 (pss_cons (ps_asg (pe_op op_sub (pe_ix ix_list (pv 7) (pv 6) (fun _ _ => rfl)) pe_int) (pg_sub (pv 7) (pv 6) set_list))
 (pss_cons (ps_asg (pe_op op_add (pe_ix ix_list (pv 7) (pe_op op_add (pv 6) pe_int) (fun _ _ => rfl)) (pe_ix ix_tup (pv 0) (pv 6) (fun _ _ => rfl))) (pg_sub (pv 7) (pe_op op_add (pv 6) pe_int) set_list))
 (pss_one (ps_if (pt_cmp (pc_dnotin (hu_of hr) (pe_callTy call_tuple_of (by rfl) T.nTuple (by decide +kernel) (pa_cons (pv 7) pa_nil)) (pv 3))) (pss_cons (ps_dput (hu_of hr) (pv 3) (pe_callTy call_tuple_of (by rfl) T.nTuple (by decide +kernel) (pa_cons (pv 7) pa_nil)) pe_bl rfl)
 (pss_one (ps_expr (pe_bm PySem.F.plainAttrs_list PySem.F.slot_list_append PySem.F.type_list_append mt_append (pv 2) (pa_cons (pe_callTy call_tuple_of (by rfl) T.nTuple (by decide +kernel) (pa_cons (pv 7) pa_nil)) pa_nil))))) pss_nil))))) pss_nil))))))
 (pss_one (ps_ret (pv 2))))), ?_⟩)
  · obtain ⟨v1, v2, us, r, rfl, _⟩ := h
    rfl
  obtain ⟨_, _, us, r, rfl, ⟨a, rfl, ha⟩, ⟨b, rfl, hb⟩, cp, k⟩ := h
  have hz := cp.two
  refine ⟨_, rfl, by show 1 ≤ sizeLine; decide, fun F nF => ?_⟩
  have sF := same_new nF (.lst [.ref b])
  refine fun D nD => ?_
  have sD := same_new nD (.dT [])
  have hbD := sD _ _ (sF _ _ hb)
  refine ⟨_, rfl, r.map Sum.inl, b, rfl, by rw [kV_row]; exact hbD, upd_same, ?_⟩
  have nFD : F ≠ D := ne_of_none upd_same nD
  have nDH : H D = none := sF.free nD
  refine ⟨_, _, _, rfl, ?_⟩
  refine ⟨fun m σ H' => ∃ (at_ : Nat) (vs : List V) (kvs : List (List Key × V)) (fs : List Row) (v5 v6 v7 : Option V), σ = [some (.ref a), some (.ref b), some (.ref F), some (.ref D), some (.int at_), v5, v6, v7] ∧ Same H H' ∧ H' F = some (.lst vs) ∧ Rws H' vs fs ∧ H' D = some (.dT kvs) ∧
    kvs.map (·.1) = keysR fs ∧ fs.Nodup ∧ (∀ x ∈ fs, Reach us r x) ∧ r ∈ fs ∧ at_ ≤ fs.length ∧ (∀ j x, j < at_ → fs[j]? = some x → ∀ i, i < us.length → 0 < x.getD i 0 → cutAt us x i ∈ fs) ∧ m = 226981 - at_,
    ⟨226981, 0, [.ref b], _, [r], none, none, none, rfl, ?_, ?_, ?_, upd_same, rfl, by simp, ?_, by simp, Nat.zero_le _, fun j x hj => absurd hj (Nat.not_lt_zero j), rfl⟩, ?_⟩
  · exact fun c o e => (upd_ne (ne_of_none e nDH)).trans (sD _ _ (sF _ _ e))
  · exact (upd_ne nFD).trans (sD _ _ upd_same)
  · exact .cons ⟨b, rfl, (upd_ne (ne_of_none hb nDH)).trans hbD⟩ .nil
  · intro x hx
    simp at hx
    subst hx
    exact .refl
  rintro m σ H' ⟨at_, vs, kvs, fs, v5, v6, v7, rfl, s1, hF, hfs, hD, hk, nd, rc, own, le, shut, rfl⟩
  have pl := paired_length hfs
  have few := cp.few nd rc
  refine ⟨_, rfl, _, rfl, F, _, rfl, .inl (SqL.of hF), _, _, rfl, rfl, _, rfl, ?_⟩
  refine ite2 (fun c => ?_) (fun c => ?_)
  · have c' : at_ < fs.length := by
      have := of_decide_eq_true c
      omega
    obtain ⟨x, hx⟩ : ∃ x, fs[at_]? = some x := ⟨fs[at_], List.getElem?_eq_getElem c'⟩
    obtain ⟨xv, hxv, tx⟩ := Paired.at' hfs hx
    obtain ⟨c0, rfl, hc0⟩ := tx
    have rx := rc x (List.mem_of_getElem? hx)
    obtain ⟨x1, x2, x3⟩ := cp.ok rx
    refine ⟨fun σ' H' => ∃ m', m' < 226981 - at_ ∧ _, fun σ' H' z => z, ?_⟩
    refine ⟨_, rfl, _, rfl, F, _, _, _, rfl, rfl, SqL.of hF, atI_nat hxv, _, rfl, _, _, rfl, rfl, _, _, rfl, ?_⟩
    refine ⟨_, rfl, a, _, rfl, .inr (SqT.of (s1 _ _ ha)), _, rfl, by omega, by rw [List.length_map]; omega, ?_⟩
    rw [List.length_map, Int.toNat_natCast]
    refine for_range (fun i σ H2 => ∃ (vs : List V) (kvs : List (List Key × V)) (fs2 : List Row) (v6 v7 : Option V), σ = [some (.ref a), some (.ref b), some (.ref F), some (.ref D), some (.int ((at_ : Int) + 1)), some (.ref c0), v6, v7] ∧ Same H H2 ∧ H2 c0 = some (.tup (x.map V.int)) ∧ H2 F = some (.lst vs) ∧ Rws H2 vs fs2 ∧ H2 D = some (.dT kvs) ∧
      kvs.map (·.1) = keysR fs2 ∧ fs2.Nodup ∧ (∀ x ∈ fs2, Reach us r x) ∧ (∃ more, fs2 = fs ++ more) ∧ (∀ j, j < i → j < us.length → 0 < x.getD j 0 → cutAt us x j ∈ fs2))
      ⟨vs, kvs, fs, _, _, rfl, s1, hc0, hF, hfs, hD, hk, nd, rc, ⟨[], by simp⟩, fun j hj => absurd hj (Nat.not_lt_zero j)⟩ ?_ ?_
    · rintro i σ H2 hi ⟨vs2, kvs2, fs2, v6, v7, rfl, s2, hc2, hF2, hfs2, hD2, hk2, nd2, rc2, ⟨more, em⟩, done⟩
      have zi : (0 : Int) + (i : Nat) = ((i : Nat) : Int) := by omega
      rw [zi]
      have few2 := cp.few nd2 rc2
      have pl2 := paired_length hfs2
      refine ⟨_, rfl, _, rfl, c0, _, _, _, rfl, rfl, SqT.of hc2, atI_nat (mapAt (by omega)), _, _, rfl, rfl, _, rfl, ?_⟩
      refine ite2 (fun cpos => ?_) (fun cpos => ?_)
      · have cpos' : 0 < x.getD i 0 := of_decide_eq_true cpos
        have ne0 : ∀ xs, H2 F ≠ some (.tup xs) := notT hF2 fun _ z => by cases z
        refine ⟨_, rfl, c0, _, rfl, .inr (SqT.of hc2), fun N nN => ?_⟩
        have sN := same_new nN (.lst (x.map V.int))
        refine ⟨_, rfl, _, rfl, N, _, _, _, rfl, rfl, SqL.of upd_same, atI_nat (mapAt (by omega)), _, _, rfl, rfl, ?_⟩
        refine ⟨_, rfl, _, rfl, N, _, _, i, rfl, rfl, upd_same, ?_, ?_⟩
        · unfold ixN
          rw [if_pos (by omega), if_pos (by rw [List.length_map]; omega)]
          rfl
        rw [← List.map_set, upd_upd]
        have haN : upd H2 N (.lst ((x.set i (x.getD i 0 - 1)).map V.int)) a = some (.tup (us.map V.int)) := (upd_ne (ne_of_none (s2 _ _ ha) nN)).trans (s2 _ _ ha)
        have e1 : (x.set i (x.getD i 0 - 1)).getD (i + 1) 0 = x.getD (i + 1) 0 := by
          simp only [List.getD_eq_getElem?_getD]
          rw [List.getElem?_set_ne (by omega)]
        refine ⟨_, rfl, _, rfl, _, _, rfl, rfl, N, _, ((i + 1 : Nat) : Int), _, rfl, by show V.int ((i : Int) + 1) = _; congr 1, SqL.of upd_same, atI_nat (mapAt (by rw [List.length_set]; omega)), _, rfl, _, rfl, a, _, _, _, rfl, rfl, SqT.of haN, atI_nat (mapAt hi), _, _, rfl, rfl, ?_⟩
        rw [e1]
        refine ⟨_, rfl, _, rfl, _, _, rfl, rfl, N, _, ((i + 1 : Nat) : Int), i + 1, rfl, by show V.int ((i : Int) + 1) = _; congr 1, upd_same, ?_, ?_⟩
        · unfold ixN
          rw [if_pos (by omega), if_pos (by rw [List.length_map, List.length_set]; omega)]
          congr 1
        rw [← List.map_set, upd_upd]
        have ec : (x.set i (x.getD i 0 - 1)).set (i + 1) (x.getD (i + 1) 0 + us.getD i 0) = cutAt us x i := rfl
        rw [ec]
        dsimp only
        have sN2 : Same H2 (upd H2 N (.lst ((cutAt us x i).map V.int))) := same_new nN _
        have hN := upd_same (H := H2) (a := N) (o := .lst ((cutAt us x i).map V.int))
        have sHN := s2.trans sN2
        have hcN := sN2 _ _ hc2
        have hFN := sN2 _ _ hF2
        have hfsN := hfs2.same sN2
        have hDN := sN2 _ _ hD2
        generalize upd H2 N (.lst ((cutAt us x i).map V.int)) = H3 at sN2 hN sHN hcN hFN hfsN hDN ⊢
        refine ⟨_, rfl, N, _, rfl, .inl ⟨SqL.of hN, fun t nt => ?_⟩⟩
        have st := same_new nt (.tup ((cutAt us x i).map V.int))
        have kt : (upd H3 t (.tup ((cutAt us x i).map V.int))) t = some (.tup (((cutAt us x i).map Sum.inl : List Key).map kV)) := by rw [upd_same, kV_row]
        refine ⟨_, rfl, D, _, rfl, DGet.t (k := (cutAt us x i).map Sum.inl) (st _ _ hDN) kt, _, rfl, ?_⟩
        rw [val_keys (cutAt us x i) hk2]
        have sHt := sHN.trans st
        by_cases mem : cutAt us x i ∈ fs2
        · rw [decide_eq_true mem]
          refine iteF ?_
          refine ⟨vs2, kvs2, fs2, _, _, rfl, sHt, st _ _ hcN, st _ _ hFN, hfsN.same st, st _ _ hDN, hk2, nd2, rc2, ⟨more, em⟩, fun j hj hju hjp => ?_⟩
          rcases Nat.lt_succ_iff_lt_or_eq.mp hj with h | h
          · exact done j h hju hjp
          · rw [h]
            exact mem
        · rw [decide_eq_false mem]
          refine iteT ?_
          have kl : kvs2.length = fs2.length := by
            have := congrArg List.length hk2
            simpa [keysR] using this
          refine ⟨_, rfl, _, rfl, N, _, rfl, .inl ⟨SqL.of (st _ _ hN), fun t2 nt2 => ?_⟩⟩
          have st2 := same_new nt2 (.tup ((cutAt us x i).map V.int))
          have kt2 : (upd (upd H3 t (.tup ((cutAt us x i).map V.int))) t2 (.tup ((cutAt us x i).map V.int))) t2 = some (.tup (((cutAt us x i).map Sum.inl : List Key).map kV)) := by rw [upd_same, kV_row]
          have s4 := st.trans st2
          have hD4 := s4 _ _ hDN
          have hN4 := s4 _ _ hN
          have hF4 := s4 _ _ hFN
          have hfs4 := hfsN.same s4
          have sH4 := sHN.trans s4
          have hc4 := s4 _ _ hcN
          have nDF : F ≠ D := fun z => by rw [← z, hFN] at hDN; cases hDN
          have nDN : N ≠ D := fun z => by rw [← z, hN] at hDN; cases hDN
          have nDc : c0 ≠ D := fun z => by rw [← z, hcN] at hDN; cases hDN
          have nDn : ∀ xs, (upd (upd H3 t (.tup ((cutAt us x i).map V.int))) t2 (.tup ((cutAt us x i).map V.int))) D ≠ some (.tup xs) := notT hD4 fun _ z => by cases z
          generalize upd (upd H3 t (.tup ((cutAt us x i).map V.int))) t2 (.tup ((cutAt us x i).map V.int)) = H4 at kt2 hD4 hN4 hF4 hfs4 sH4 hc4 nDn ⊢
          refine ⟨D, _, rfl, DPut.t (k := (cutAt us x i).map Sum.inl) hD4 kt2 (Nat.lt_of_le_of_lt (by omega : kvs2.length ≤ 226981) (by decide)), ?_⟩
          have hF5 := (upd_ne (H := H4) (o := .dT (putK kvs2 ((cutAt us x i).map Sum.inl) (.bl true))) nDF).trans hF4
          have hN5 := (upd_ne (H := H4) (o := .dT (putK kvs2 ((cutAt us x i).map Sum.inl) (.bl true))) nDN).trans hN4
          have hc5 := (upd_ne (H := H4) (o := .dT (putK kvs2 ((cutAt us x i).map Sum.inl) (.bl true))) nDc).trans hc4
          have hfs5 : Rws (upd H4 D (.dT (putK kvs2 ((cutAt us x i).map Sum.inl) (.bl true)))) vs2 fs2 := hfs4.upd nDn
          have sH5 : Same H (upd H4 D (.dT (putK kvs2 ((cutAt us x i).map Sum.inl) (.bl true)))) := same_upd sH4 nDH
          have hD5 := upd_same (H := H4) (a := D) (o := .dT (putK kvs2 ((cutAt us x i).map Sum.inl) (.bl true)))
          generalize upd H4 D (.dT (putK kvs2 ((cutAt us x i).map Sum.inl) (.bl true))) = H5 at hF5 hN5 hc5 hfs5 sH5 hD5 ⊢
          refine ⟨_, rfl, .inl ⟨rfl, _, SqL.of hF5⟩, _, rfl, N, _, rfl, .inl ⟨SqL.of hN5, fun t3 nt3 => ?_⟩⟩
          have st3 := same_new nt3 (.tup ((cutAt us x i).map V.int))
          have hF6 := st3 _ _ hF5
          have ak : addKey fs2 (cutAt us x i) = fs2 ++ [cutAt us x i] := by
            unfold addKey
            rw [if_neg mem]
          have k5 := keys_put (cutAt us x i) (.bl true) hk2
          have nd5 := addKey_nodup (r := cutAt us x i) nd2
          rw [ak] at k5 nd5
          have nF6 : ∀ xs, (upd H5 t3 (.tup ((cutAt us x i).map V.int))) F ≠ some (.tup xs) := notT hF6 fun _ z => by cases z
          refine ⟨F, vs2, .ref t3, rfl, rfl, hF6, Nat.lt_of_le_of_lt (by omega : vs2.length ≤ 226981) (by decide), ?_⟩
          refine ⟨vs2 ++ [.ref t3], _, fs2 ++ [cutAt us x i], _, _, rfl, same_upd (sH5.trans st3) nF, ?_, upd_same, ?_, ?_, k5, nd5, ?_, ⟨more ++ [cutAt us x i], by rw [em, List.append_assoc]⟩, ?_⟩
          · exact (upd_ne (ne_of hc5 hF5 (fun z => by cases z))).trans (st3 _ _ hc5)
          · exact Paired.app ((hfs5.same st3).upd nF6) (.cons (TI.upd ⟨t3, rfl, upd_same⟩ nF6) .nil)
          · exact (upd_ne (Ne.symm nDF)).trans (st3 _ _ hD5)
          · intro y hy
            rcases List.mem_append.mp hy with hy | hy
            · exact rc2 y hy
            · simp at hy
              rw [hy]
              exact .step i rx hi cpos'
          · intro j hj hju hjp
            rcases Nat.lt_succ_iff_lt_or_eq.mp hj with h | h
            · exact List.mem_append.mpr (.inl (done j h hju hjp))
            · rw [h]
              simp
      · refine ⟨vs2, kvs2, fs2, _, _, rfl, s2, hc2, hF2, hfs2, hD2, hk2, nd2, rc2, ⟨more, em⟩, fun j hj hju hjp => ?_⟩
        rcases Nat.lt_succ_iff_lt_or_eq.mp hj with h | h
        · exact done j h hju hjp
        · rw [h] at hjp
          exact absurd (decide_eq_true hjp) cpos
    · rintro σ H2 ⟨vs2, kvs2, fs2, v6, v7, rfl, s2, hc2, hF2, hfs2, hD2, hk2, nd2, rc2, ⟨more, em⟩, done⟩
      have few2 := cp.few nd2 rc2
      have l2 : fs.length ≤ fs2.length := by rw [em, List.length_append]; omega
      refine ⟨226981 - (at_ + 1), by omega, at_ + 1, vs2, kvs2, fs2, _, _, _, rfl, s2, hF2, hfs2, hD2, hk2, nd2, rc2, by rw [em]; exact List.mem_append.mpr (.inl own), by omega, ?_, rfl⟩
      intro j y hj hy i hi hp
      rcases Nat.lt_succ_iff_lt_or_eq.mp hj with h | h
      · have hy1 : fs[j]? = some y := by
          rw [em, List.getElem?_append_left (by omega)] at hy
          exact hy
        rw [em]
        exact List.mem_append.mpr (.inl (shut j y h hy1 i hi hp))
      · rw [h] at hy
        have hy1 : fs[at_]? = some y := by
          rw [em, List.getElem?_append_left c'] at hy
          exact hy
        rw [hx] at hy1
        cases hy1
        exact done i hi hi hp
  · have c' : at_ = fs.length := by
      have : ¬ ((at_ : Int) < (vs.length : Int)) := fun z => c (decide_eq_true z)
      omega
    refine ⟨_, rfl, k H' _ fs s1 ⟨F, vs, rfl, nF, hF, hfs⟩ ⟨rc, own, fun x hx i hi hp => ?_, few⟩⟩
    obtain ⟨j, hj⟩ := List.mem_iff_getElem?.mp hx
    exact shut j x (by rw [c']; exact (List.getElem?_eq_some_iff.mp hj).1) hj i hi hp
end
end K40
end
section
set_option Elab.async false
set_option linter.all false
set_option autoImplicit false
set_option maxRecDepth 100000
/-! Mathematics: fits, the law's play, least stairs. -/
namespace K40
open PySem PySem.Spec PyProof.Rows L2
theorem zsub_len' {us : List Int} {a b : Row} (h1 : a.length = us.length + 1) (h2 : b.length = us.length + 1) : (zsub a b).length = us.length + 1 := by rw [zsub_length (by omega), h1]
theorem zadd_len' {us : List Int} {a b : Row} (h1 : a.length = us.length + 1) (h2 : b.length = us.length + 1) : (zadd a b).length = us.length + 1 := by rw [zadd_length (by omega), h1]
theorem nn_zadd : ∀ {a b : List Int}, nn a → nn b → nn (zadd a b)
  | [], b, _, _ => by cases b <;> (intro z hz; cases hz)
  | _ :: _, [], _, _ => by intro z hz; cases hz
  | x :: xs, y :: ys, h, k => fun z hz => by
    have hz : z ∈ (x + y) :: zadd xs ys := hz
    rcases List.mem_cons.mp hz with e | m
    · have := h.head
      have := k.head
      omega
    · exact nn_zadd h.tail k.tail z m
theorem last_zadd : ∀ {a b : List Int}, a.length = b.length → (zadd a b).getLastD 0 = a.getLastD 0 + b.getLastD 0
  | [], [], _ => rfl
  | [x], [y], _ => rfl
  | x :: x2 :: xs, y :: y2 :: ys, h => last_zadd (a := x2 :: xs) (b := y2 :: ys) (by simpa using h)
theorem last_le : ∀ {a b : List Int}, leL a b → a.getLastD 0 ≤ b.getLastD 0
  | [], [], _ => Int.le_refl _
  | [x], [y], h => h.1
  | x :: x2 :: xs, y :: y2 :: ys, h => last_le (a := x2 :: xs) (b := y2 :: ys) h.2
/-- the last one raised -/
def addLast : List Int → Int → List Int
  | [], _ => []
  | [x], d => [x + d]
  | x :: y :: xs, d => x :: addLast (y :: xs) d
theorem addLast_length : ∀ (a : List Int) (d : Int), (addLast a d).length = a.length
  | [], _ => rfl
  | [x], _ => rfl
  | x :: y :: xs, d => by
    show (addLast (y :: xs) d).length + 1 = _
    rw [addLast_length (y :: xs) d]
    rfl
theorem addLast_ge : ∀ (a : List Int) (d : Int), 0 ≤ d → leL a (addLast a d)
  | [], _, _ => trivial
  | [x], d, h => ⟨by omega, trivial⟩
  | x :: y :: xs, d, h => ⟨Int.le_refl _, addLast_ge (y :: xs) d h⟩
theorem addLast_le : ∀ {a b : List Int} {d : Int}, leL a b → a.getLastD 0 + d ≤ b.getLastD 0 → leL (addLast a d) b
  | [], [], _, _, _ => trivial
  | [x], [y], d, h, e => ⟨e, trivial⟩
  | x :: x2 :: xs, y :: y2 :: ys, d, h, e => ⟨h.1, addLast_le (a := x2 :: xs) (b := y2 :: ys) h.2 e⟩
theorem addLast_last : ∀ (a : List Int) (d : Int), a ≠ [] → (addLast a d).getLastD 0 = a.getLastD 0 + d
  | [x], d, _ => rfl
  | [x, y], d, _ => rfl
  | x :: y :: z :: xs, d, _ => by
    have := addLast_last (y :: z :: xs) d (by simp)
    show (x :: y :: addLast (z :: xs) d).getLastD 0 = _
    exact this
theorem stairC_addLast : ∀ (us : List Int) (c : Int) (r : Row) (d : Int), r.length = us.length + 1 → stairC us c (addLast r d) = addLast (stairC us c r) d
  | [], c, [x], d, _ => by
    show [c + (x + d)] = [c + x + d]
    congr 1
    omega
  | u :: us, c, x :: y :: xs, d, h => by
    have ih := stairC_addLast us (u * (c + x)) (y :: xs) d (by simpa using h)
    show (c + x) :: stairC us (u * (c + x)) (addLast (y :: xs) d) = _
    rw [ih]
    have hne := stairC_ne (us := us) (c := u * (c + x)) (r := y :: xs) (by simpa using h)
    show _ = addLast ((c + x) :: stairC us (u * (c + x)) (y :: xs)) d
    match stairC us (u * (c + x)) (y :: xs), hne with
    | z :: zs, _ => rfl
/-- what the cuts hold -/
theorem CutQ.mem {us : List Int} {r : Row} {rs : List Row} (cp : CutP us r) (cq : CutQ us r rs) {q : Row} (hq : q.length = us.length + 1) (hn : nn q) : q ∈ rs ↔ leL (stair us q) (stair us r) ∧ (stair us q).getLastD 0 = (stair us r).getLastD 0 := by
  rw [stair_eq hq, stair_eq cp.len]
  constructor
  · intro m
    obtain ⟨_, h1, h2⟩ := (cq.reach q m).stairC cp.len
    exact ⟨h1, h2⟩
  · rintro ⟨h1, h2⟩
    exact cut_all cq.own (fun x hx => by obtain ⟨a, _, b⟩ := (cq.reach x hx).stairC cp.len; exact ⟨a, b⟩) cq.shut hq hn h1 h2
theorem fits_eq {us : List Int} {stock order : Row} {rs : List Row} (cp : CutP us stock) (cq : CutQ us stock rs) (ho : order.length = us.length + 1) (hn : nn order) : (rs.any fun x => geZ (zsub x order)) = within (stair us order) (stair us stock) := by
  have hu := cp.uo.pos1
  have lo := stair_length (us := us) ho
  have ls := stair_length (us := us) cp.len
  rw [Bool.eq_iff_iff, List.any_eq_true, within_iff (by omega)]
  constructor
  · rintro ⟨x, hx, g⟩
    obtain ⟨x1, x2, _⟩ := cp.ok (cq.reach x hx)
    have h1 := (nn_sub (a := order) (b := x) (by omega)).mp (geZ_iff.mp g)
    have h2 := ((cq.mem cp x1 x2).mp hx).1
    have h3 := stairC_mono us 0 0 order x hu (Int.le_refl _) h1 ho
    rw [stair_eq x1] at h2
    rw [stair_eq ho]
    exact h3.trans h2
  · intro h
    have hd : 0 ≤ (stair us stock).getLastD 0 - (stair us order).getLastD 0 := by
      have := last_le h
      omega
    have ne : stair us order ≠ [] := fun z => by rw [z] at lo; simp at lo
    have lq : (addLast order ((stair us stock).getLastD 0 - (stair us order).getLastD 0)).length = us.length + 1 := by rw [addLast_length, ho]
    have ge := addLast_ge order _ hd
    have sq : stair us (addLast order ((stair us stock).getLastD 0 - (stair us order).getLastD 0)) = addLast (stair us order) ((stair us stock).getLastD 0 - (stair us order).getLastD 0) := by
      rw [stair_eq lq, stairC_addLast us 0 order _ ho, ← stair_eq ho]
    refine ⟨_, (cq.mem cp lq (leL_nn ge hn)).mpr ?_, geZ_iff.mpr ((nn_sub (by omega)).mpr ge)⟩
    rw [sq]
    exact ⟨addLast_le h (by omega), by rw [addLast_last _ _ ne]; omega⟩
theorem livesS_mono (us : List Int) (hu : pos1 us) : ∀ (p : Plan) (m : Int) (s t : Row), p.Ok (us.length + 1) m → s.length = us.length + 1 → leL s t → livesS us p s = true → livesS us p t = true := by
  intro p m
  induction p with
  | fin => intro s t _ _ _ _; rfl
  | ask r p ih =>
    intro s t ok hs h l
    have ht : t.length = us.length + 1 := by rw [← h.len, hs]
    have hr := stair_length (us := us) ok.1.1
    have d1 := zsub_len' (us := us) hs hr
    have d2 := zsub_len' (us := us) ht hr
    have le : leL (zsub s (stair us r)) (zsub t (stair us r)) := by
      rw [leL_sub' (by omega) (by omega)]
      have := (leL_sub' (a := t) (b := stair us r) (c := zsub t (stair us r)) (by omega) (by omega)).mp (.refl _)
      exact h.trans this
    simp only [livesS, down] at l ⊢
    by_cases g : geZ (zsub s (stair us r)) = true
    · rw [if_pos g] at l
      have n1 := geZ_iff.mp g
      have n2 := leL_nn le n1
      rw [if_pos (geZ_iff.mpr n2)]
      have st := down_isSt hu d1 n1
      refine ih _ _ ok.2 st.len ?_ l
      exact (down_iff hu d2 st).mpr ((goD_le us _ d1).trans le)
    · rw [if_neg g] at l
      cases l
  | bring r p ih =>
    intro s t ok hs h l
    have hr := stair_length (us := us) ok.1.1
    exact ih _ _ ok.2 (zadd_len' hs hr) (leL_zadd h (.refl _)) l
  | either a b iha ihb =>
    intro s t ok hs h l
    simp only [livesS, Bool.and_eq_true] at l ⊢
    exact ⟨iha _ _ ok.1 hs h l.1, ihb _ _ ok.2 hs h l.2⟩
  | ours a b iha ihb =>
    intro s t ok hs h l
    simp only [livesS, Bool.or_eq_true] at l ⊢
    rcases l with l | l
    · exact .inl (iha _ _ ok.1 hs h l)
    · exact .inr (ihb _ _ ok.2 hs h l)
/-- the play: through what the cuts leave -/
theorem ask_eq {us : List Int} {stock order : Row} {rs : List Row} {p : Plan} {m : Int} (cp : CutP us stock) (cq : CutQ us stock rs) (ok : p.Ok (us.length + 1) m) (ho : order.length = us.length + 1) (hn : nn order) :
    (∃ x ∈ rs, nn (zsub x order) ∧ livesS us p (stair us (zsub x order)) = true) ↔ livesS us (.ask order p) (stair us stock) = true := by
  have hu := cp.uo.pos1
  have lo := stair_length (us := us) ho
  have ls := stair_length (us := us) cp.len
  have ld := zsub_len' (us := us) ls lo
  constructor
  · rintro ⟨x, hx, g, l⟩
    obtain ⟨x1, x2, _⟩ := cp.ok (cq.reach x hx)
    have h2 := ((cq.mem cp x1 x2).mp hx).1
    have lq := zsub_len' (us := us) x1 ho
    have st := isSt_of lq g
    have ex : stair us x = zadd (stair us (zsub x order)) (stair us order) := by
      rw [← stair_add lq ho, zadd_zsub (by omega)]
    rw [ex, leL_sub (by rw [st.len, ls]) (by omega)] at h2
    have n1 := leL_nn h2 (st.nn hu)
    simp only [livesS, down]
    rw [if_pos (geZ_iff.mpr n1)]
    exact livesS_mono us hu p m _ _ ok st.len ((down_iff hu ld st).mpr h2) l
  · intro l
    simp only [livesS, down] at l
    by_cases g : geZ (zsub (stair us stock) (stair us order)) = true
    · rw [if_pos g] at l
      have n1 := geZ_iff.mp g
      have st := down_isSt hu ld n1
      have lr := row_length st.len
      have e1 : zsub (zadd (row us (goD us (zsub (stair us stock) (stair us order)))) order) order = row us (goD us (zsub (stair us stock) (stair us order))) := zsub_zadd (by omega)
      have lx := zadd_len' (us := us) lr ho
      refine ⟨zadd (row us (goD us (zsub (stair us stock) (stair us order)))) order, ?_, ?_, ?_⟩
      · refine (cq.mem cp lx (nn_zadd st.row hn)).mpr ?_
        rw [stair_add lr ho, st.stair]
        refine ⟨(leL_sub (by rw [st.len, ls]) (by omega)).mpr (goD_le us _ ld), ?_⟩
        rw [last_zadd (by rw [st.len, lo]), goD_lastD us _ ld]
        have := last_zadd (a := zsub (stair us stock) (stair us order)) (b := stair us order) (by omega)
        rw [zadd_zsub (by omega)] at this
        omega
      · rw [e1]
        exact st.row
      · rw [e1, st.stair]
        exact l
    · rw [if_neg g] at l
      cases l
end K40
end
section
set_option Elab.async false
set_option linter.all false
set_option autoImplicit false
set_option maxRecDepth 100000
/-! Mathematics: kept, greatest, least stairs. -/
namespace K40
open PySem PySem.Spec PyProof.Rows L2
theorem leL_lex : ∀ {a b : List Int}, leL a b → a ≤ b
  | [], [], _ => List.le_total [] [] |>.elim id id
  | x :: xs, y :: ys, h => by
    rw [List.cons_le_cons_iff]
    have := h.1
    by_cases e : x = y
    · exact .inr ⟨e, leL_lex h.2⟩
    · exact .inl (by omega)
theorem leR_trans (a b c : Row) : leR a b = true → leR b c = true → leR a c = true := by
  unfold leR
  simp only [decide_eq_true_eq]
  exact List.le_trans
theorem leR_total (a b : Row) : (leR a b || leR b a) = true := by
  unfold leR
  simp only [Bool.or_eq_true, decide_eq_true_eq]
  exact List.le_total a b
/-- ascending -/
def Asc (L : List Row) : Prop := L.Pairwise fun a b => leR a b = true
theorem sortR_asc (L : List Row) : Asc (sortR L) := List.pairwise_mergeSort leR_trans leR_total L
theorem sortR_id {L : List Row} (h : Asc L) : sortR L = L := List.mergeSort_of_pairwise h
theorem sortR_perm (L : List Row) : (sortR L).Perm L := List.mergeSort_perm L leR
theorem sortR_mem {L : List Row} {x : Row} : x ∈ sortR L ↔ x ∈ L := (sortR_perm L).mem_iff
theorem dedup_nodup (ss : List Row) : (dedupR ss).Nodup := by
  unfold dedupR
  have go : ∀ (ss rs : List Row), rs.Nodup → (ss.foldl addKey rs).Nodup := by
    intro ss
    induction ss with
    | nil => intro rs h; exact h
    | cons s ss ih => intro rs h; exact ih _ (addKey_nodup h)
  exact go ss [] (by simp)
theorem unlike_nodup (ss : List Row) : (unlike ss).Nodup := (sortR_perm _).nodup_iff.mpr (dedup_nodup ss)
theorem dedup_id : ∀ {ss : List Row}, ss.Nodup → dedupR ss = ss := by
  have go : ∀ (ss rs : List Row), (rs ++ ss).Nodup → ss.foldl addKey rs = rs ++ ss := by
    intro ss
    induction ss with
    | nil => intro rs _; simp
    | cons s ss ih =>
      intro rs h
      have hs : s ∉ rs := by
        intro m
        rw [List.nodup_append] at h
        exact h.2.2 s m s (by simp) rfl
      rw [List.foldl_cons, show addKey rs s = rs ++ [s] from by unfold addKey; rw [if_neg hs], ih (rs ++ [s]) (by simpa using h)]
      simp
  intro ss h
  have := go ss [] (by simpa using h)
  simpa [dedupR] using this
/-- none within another -/
def Anti (L : List Row) : Prop := L.Pairwise fun a b => ¬ leL a b ∧ ¬ leL b a
theorem enough_iff {n : Nat} {found : List Row} {s : Row} (hf : ∀ x ∈ found, x.length = n) (hs : s.length = n) : enough found s = true ↔ ∃ x ∈ found, leL x s := by
  unfold enough
  rw [List.any_eq_true]
  constructor
  · rintro ⟨x, hx, h⟩
    exact ⟨x, hx, (within_iff (by rw [hf x hx, hs])).mp h⟩
  · rintro ⟨x, hx, h⟩
    exact ⟨x, hx, (within_iff (by rw [hf x hx, hs])).mpr h⟩
theorem keptGo_any {n : Nat} : ∀ (ss found out : List Row), (∀ x ∈ found, x.length = n) → (∀ x ∈ ss, x.length = n) → keptGo found ss = some out → ∀ t : Row, (∃ y ∈ out, leL y t) ↔ (∃ y ∈ found, leL y t) ∨ ∃ y ∈ ss, leL y t
  | [], found, out, _, _, e, t => by
    cases e
    simp
  | s :: ss, found, out, hf, hs, e, t => by
    have hss := hs s (by simp)
    unfold keptGo at e
    split at e
    · rename_i c
      obtain ⟨x, hx, hl⟩ := (enough_iff hf hss).mp c
      rw [keptGo_any ss found out hf (fun x hx => hs x (List.mem_cons_of_mem _ hx)) e t]
      constructor
      · rintro (⟨y, h1, h2⟩ | ⟨y, h1, h2⟩)
        · exact .inl ⟨y, h1, h2⟩
        · exact .inr ⟨y, List.mem_cons_of_mem _ h1, h2⟩
      · rintro (⟨y, h1, h2⟩ | ⟨y, h1, h2⟩)
        · exact .inl ⟨y, h1, h2⟩
        · rcases List.mem_cons.mp h1 with e1 | h1
          · subst e1
            exact .inl ⟨x, hx, hl.trans h2⟩
          · exact .inr ⟨y, h1, h2⟩
    · split at e
      · cases e
      · rw [keptGo_any ss (found ++ [s]) out (fun x hx => by
          rcases List.mem_append.mp hx with h | h
          · exact hf x h
          · simp at h; rw [h]; exact hss) (fun x hx => hs x (List.mem_cons_of_mem _ hx)) e t]
        constructor
        · rintro (⟨y, h1, h2⟩ | ⟨y, h1, h2⟩)
          · rcases List.mem_append.mp h1 with h | h
            · exact .inl ⟨y, h, h2⟩
            · simp at h
              exact .inr ⟨y, by simp [h], h2⟩
          · exact .inr ⟨y, List.mem_cons_of_mem _ h1, h2⟩
        · rintro (⟨y, h1, h2⟩ | ⟨y, h1, h2⟩)
          · exact .inl ⟨y, List.mem_append.mpr (.inl h1), h2⟩
          · rcases List.mem_cons.mp h1 with e1 | h1
            · exact .inl ⟨y, by simp [e1], h2⟩
            · exact .inr ⟨y, h1, h2⟩
theorem kept_any {n : Nat} {ss out : List Row} (hs : ∀ x ∈ ss, x.length = n) (e : kept ss = some out) (t : Row) : (∃ y ∈ out, leL y t) ↔ ∃ y ∈ ss, leL y t := by
  rw [keptGo_any (n := n) (unlike ss) [] out (by simp) (fun x hx => hs x (unlike_mem.mp hx)) e t]
  constructor
  · rintro (⟨y, h, _⟩ | ⟨y, h, h2⟩)
    · simp at h
    · exact ⟨y, unlike_mem.mp h, h2⟩
  · rintro ⟨y, h, h2⟩
    exact .inr ⟨y, unlike_mem.mpr h, h2⟩
/-- what is kept: in order, none within another -/
theorem keptGo_anti {n : Nat} : ∀ (ss found out : List Row), (∀ x ∈ found ++ ss, x.length = n) → Asc (found ++ ss) → (found ++ ss).Nodup → Anti found → keptGo found ss = some out → Asc out ∧ Anti out ∧ out.Nodup
  | [], found, out, _, ha, hn, h, e => by
    cases e
    rw [List.append_nil] at ha hn
    exact ⟨ha, h, hn⟩
  | s :: ss, found, out, hl, ha, hn, h, e => by
    unfold keptGo at e
    have hf : ∀ x ∈ found, x.length = n := fun x hx => hl x (List.mem_append.mpr (.inl hx))
    have hs : s.length = n := hl s (by simp)
    split at e
    · have sub : (found ++ ss).Sublist (found ++ s :: ss) := List.Sublist.append_left (List.sublist_cons_self s ss) found
      exact keptGo_anti ss found out (fun x hx => hl x (sub.subset hx)) (ha.sublist sub) (hn.sublist sub) h e
    · rename_i c
      split at e
      · cases e
      · have e1 : found ++ s :: ss = (found ++ [s]) ++ ss := by simp
        rw [e1] at hl ha hn
        refine keptGo_anti ss (found ++ [s]) out hl ha hn ?_ e
        unfold Anti
        rw [List.pairwise_append]
        refine ⟨h, by simp, fun x hx y hy => ?_⟩
        simp at hy
        subst hy
        refine ⟨fun k => c ((enough_iff hf hs).mpr ⟨x, hx, k⟩), fun k => ?_⟩
        unfold Asc at ha
        have ha2 := (List.pairwise_append.mp ha).1
        have h3 := (List.pairwise_append.mp ha2).2.2 x hx y (by simp)
        unfold leR at h3
        have e2 := List.le_antisymm (of_decide_eq_true h3) (leL_lex k)
        have hn2 := (List.nodup_append.mp hn).1
        exact (List.nodup_append.mp hn2).2.2 x hx y (by simp) e2
theorem kept_anti {n : Nat} {ss out : List Row} (hs : ∀ x ∈ ss, x.length = n) (e : kept ss = some out) : Asc out ∧ Anti out ∧ out.Nodup :=
  keptGo_anti (n := n) (unlike ss) [] out (fun x hx => hs x (unlike_mem.mp (by simpa using hx))) (by rw [List.nil_append]; exact sortR_asc (dedupR ss)) (by simpa using unlike_nodup ss) List.Pairwise.nil e
/-- what is in order and none within another stays -/
theorem kept_id {n : Nat} {L : List Row} (hl : ∀ x ∈ L, x.length = n) (ha : Asc L) (hx : Anti L) (hn : L.Nodup) (h40 : L.length ≤ 40) : kept L = some L := by
  have go : ∀ (ss found : List Row), (∀ x ∈ found ++ ss, x.length = n) → Anti (found ++ ss) → (found ++ ss).length ≤ 40 → keptGo found ss = some (found ++ ss) := by
    intro ss
    induction ss with
    | nil => intro found _ _ _; simp [keptGo]
    | cons s ss ih =>
      intro found hl h h4
      have hf : ∀ x ∈ found, x.length = n := fun x hx => hl x (List.mem_append.mpr (.inl hx))
      have c : ¬ enough found s = true := fun z => by
        obtain ⟨x, hx, k⟩ := (enough_iff hf (hl s (by simp))).mp z
        exact ((List.pairwise_append.mp h).2.2 x hx s (by simp)).1 k
      unfold keptGo
      rw [if_neg c, if_neg (by rw [List.length_append] at h4; simp at h4; omega)]
      have e1 : found ++ s :: ss = (found ++ [s]) ++ ss := by simp
      rw [e1] at hl h h4 ⊢
      exact ih (found ++ [s]) hl h h4
  unfold kept unlike
  rw [dedup_id hn, sortR_id ha]
  have := go L [] (by simpa using hl) (by simpa using hx) (by simpa using h40)
  simpa using this
/-- few: nothing is refused -/
theorem keptGo_few : ∀ (ss found : List Row), found.length + ss.length ≤ 40 → ∃ out, keptGo found ss = some out ∧ out.length ≤ found.length + ss.length
  | [], found, _ => ⟨found, rfl, by simp⟩
  | s :: ss, found, h => by
    rw [List.length_cons] at h
    unfold keptGo
    split
    · obtain ⟨out, h1, h2⟩ := keptGo_few ss found (by omega)
      exact ⟨out, h1, by rw [List.length_cons]; omega⟩
    · rw [if_neg (by omega)]
      obtain ⟨out, h1, h2⟩ := keptGo_few ss (found ++ [s]) (by rw [List.length_append]; simp; omega)
      exact ⟨out, h1, by rw [List.length_append] at h2; simp at h2; rw [List.length_cons]; omega⟩
theorem kept_few {ss : List Row} (h : ss.length ≤ 40) : ∃ out, kept ss = some out ∧ out.length ≤ ss.length := by
  have := unlike_length ss
  obtain ⟨out, h1, h2⟩ := keptGo_few (unlike ss) [] (by simp; omega)
  exact ⟨out, h1, by simp at h2; omega⟩
/-- stairs of one or two steps, the last at most 20: few stand beside one another -/
structure Low (us : List Int) (y : Row) : Prop where
  st : IsSt us y
  last : y.getLastD 0 ≤ 20
theorem anti_small {us : List Int} (hu : pos1 us) (h1 : us.length ≤ 1) {L : List Row} (hl : ∀ y ∈ L, Low us y) (hx : Anti L) : L.length ≤ 21 := by
  have head : ∀ y ∈ L, 0 ≤ y.headD 0 ∧ y.headD 0 ≤ 20 := by
    intro y hy
    obtain ⟨st, la⟩ := hl y hy
    have ny := st.nn hu
    have hlen := st.len
    match us, h1, hu, st with
    | [], _, _, st =>
      match y, hlen with
      | [a], _ => exact ⟨ny.head, la⟩
    | [u], _, hu, st =>
      match y, hlen with
      | [a, b], _ =>
        have h2 : 0 ≤ b - u * a := (nn.tail st.ok).head
        have h3 : b ≤ 20 := la
        have h4 := ny.head
        have h5 := hu u (by simp)
        have h6 : a ≤ u * a := by
          have := Int.mul_le_mul_of_nonneg_right h5 h4
          omega
        exact ⟨h4, by show a ≤ 20; omega⟩
  have inj : (L.map fun y => (y.headD 0).toNat).Nodup := by
    unfold List.Nodup
    rw [List.pairwise_map]
    refine hx.imp_of_mem fun {a b} ha hb ne e => ?_
    obtain ⟨a0, _⟩ := head a ha
    obtain ⟨b0, _⟩ := head b hb
    have e2 : a.headD 0 = b.headD 0 := by omega
    have la := (hl a ha).st.len
    have lb := (hl b hb).st.len
    match us, h1 with
    | [], _ =>
      match a, b, la, lb with
      | [x], [y], _, _ =>
        have e3 : x = y := e2
        exact ne.1 ⟨by omega, trivial⟩
    | [u], _ =>
      match a, b, la, lb with
      | [x, z], [y, w], _, _ =>
        have e3 : x = y := e2
        by_cases c : z ≤ w
        · exact ne.1 ⟨by omega, c, trivial⟩
        · exact ne.2 ⟨by omega, by omega, trivial⟩
  have := nodup_lt 21 _ inj fun x hx => by
    obtain ⟨y, hy, rfl⟩ := List.mem_map.mp hx
    have := head y hy
    omega
  simpa using this
theorem keptGo_low {us : List Int} (hu : pos1 us) (h1 : us.length ≤ 1) : ∀ (ss found : List Row), (∀ y ∈ found ++ ss, Low us y) → Asc (found ++ ss) → (found ++ ss).Nodup → Anti found → ∃ out, keptGo found ss = some out
  | [], found, _, _, _, _ => ⟨found, rfl⟩
  | s :: ss, found, hl, ha, hn, h => by
    have hf : ∀ x ∈ found, x.length = us.length + 1 := fun x hx => (hl x (List.mem_append.mpr (.inl hx))).st.len
    have hs : s.length = us.length + 1 := (hl s (by simp)).st.len
    unfold keptGo
    split
    · have sub : (found ++ ss).Sublist (found ++ s :: ss) := List.Sublist.append_left (List.sublist_cons_self s ss) found
      exact keptGo_low hu h1 ss found (fun x hx => hl x (sub.subset hx)) (ha.sublist sub) (hn.sublist sub) h
    · rename_i c
      have few := anti_small hu h1 (fun y hy => hl y (List.mem_append.mpr (.inl hy))) h
      rw [if_neg (by omega)]
      have e1 : found ++ s :: ss = (found ++ [s]) ++ ss := by simp
      rw [e1] at hl ha hn
      refine keptGo_low hu h1 ss (found ++ [s]) hl ha hn ?_
      unfold Anti
      rw [List.pairwise_append]
      refine ⟨h, by simp, fun x hx y hy => ?_⟩
      simp at hy
      subst hy
      refine ⟨fun k => c ((enough_iff hf hs).mpr ⟨x, hx, k⟩), fun k => ?_⟩
      have ha2 := (List.pairwise_append.mp ha).1
      have h3 := (List.pairwise_append.mp ha2).2.2 x hx y (by simp)
      unfold leR at h3
      have e2 := List.le_antisymm (of_decide_eq_true h3) (leL_lex k)
      have hn2 := (List.nodup_append.mp hn).1
      exact (List.nodup_append.mp hn2).2.2 x hx y (by simp) e2
theorem kept_low {us : List Int} (hu : pos1 us) (h1 : us.length ≤ 1) {ss : List Row} (hl : ∀ y ∈ ss, Low us y) : ∃ out, kept ss = some out :=
  keptGo_low hu h1 (unlike ss) [] (fun y hy => hl y (unlike_mem.mp (by simpa using hy))) (by rw [List.nil_append]; exact sortR_asc (dedupR ss)) (by simpa using unlike_nodup ss) List.Pairwise.nil
/-! ### greatest -/
theorem great_go {n : Nat} : ∀ (ss found : List Row), (∀ x ∈ found ++ ss, x.length = n) → ∀ t : Row, (∃ g ∈ ss.foldl greatStep found, leL t g) ↔ (∃ g ∈ found, leL t g) ∨ ∃ g ∈ ss, leL t g
  | [], found, _, t => by simp
  | s :: ss, found, hl, t => by
    have hf : ∀ x ∈ found, x.length = n := fun x hx => hl x (List.mem_append.mpr (.inl hx))
    have hs : s.length = n := hl s (by simp)
    rw [List.foldl_cons]
    by_cases c : (found.filter fun one => within s one).isEmpty = true
    · have e : greatStep found s = found ++ [s] := by unfold greatStep; rw [if_pos c]
      rw [e, great_go ss (found ++ [s]) (by simpa using hl) t]
      constructor
      · rintro (⟨y, h1, h2⟩ | ⟨y, h1, h2⟩)
        · rcases List.mem_append.mp h1 with h | h
          · exact .inl ⟨y, h, h2⟩
          · simp at h
            exact .inr ⟨y, by simp [h], h2⟩
        · exact .inr ⟨y, List.mem_cons_of_mem _ h1, h2⟩
      · rintro (⟨y, h1, h2⟩ | ⟨y, h1, h2⟩)
        · exact .inl ⟨y, List.mem_append.mpr (.inl h1), h2⟩
        · rcases List.mem_cons.mp h1 with e1 | h1
          · exact .inl ⟨y, by simp [e1], h2⟩
          · exact .inr ⟨y, h1, h2⟩
    · have e : greatStep found s = found := by unfold greatStep; rw [if_neg c]
      have ex : ∃ x ∈ found, leL s x := by
        rw [List.isEmpty_iff] at c
        obtain ⟨x, hx⟩ := List.exists_mem_of_ne_nil _ c
        obtain ⟨h1, h2⟩ := List.mem_filter.mp hx
        exact ⟨x, h1, (within_iff (by rw [hf x h1, hs])).mp h2⟩
      rw [e, great_go ss found (fun x hx => hl x (by rcases List.mem_append.mp hx with h | h <;> simp [h])) t]
      constructor
      · rintro (⟨y, h1, h2⟩ | ⟨y, h1, h2⟩)
        · exact .inl ⟨y, h1, h2⟩
        · exact .inr ⟨y, List.mem_cons_of_mem _ h1, h2⟩
      · rintro (⟨y, h1, h2⟩ | ⟨y, h1, h2⟩)
        · exact .inl ⟨y, h1, h2⟩
        · rcases List.mem_cons.mp h1 with e1 | h1
          · subst e1
            obtain ⟨x, hx, hl2⟩ := ex
            exact .inl ⟨x, hx, h2.trans hl2⟩
          · exact .inr ⟨y, h1, h2⟩
theorem great_any {n : Nat} {ss : List Row} (hl : ∀ x ∈ ss, x.length = n) (t : Row) : (∃ g ∈ greatest ss, leL t g) ↔ ∃ g ∈ ss, leL t g := by
  unfold greatest
  rw [great_go (n := n) (unlike ss).reverse [] (fun x hx => hl x (unlike_mem.mp (by simpa using hx))) t]
  constructor
  · rintro (⟨y, h, _⟩ | ⟨y, h, h2⟩)
    · simp at h
    · exact ⟨y, unlike_mem.mp (List.mem_reverse.mp h), h2⟩
  · rintro ⟨y, h, h2⟩
    exact .inr ⟨y, List.mem_reverse.mpr (unlike_mem.mpr h), h2⟩
theorem great_anti_go {n : Nat} : ∀ (ss found : List Row), (∀ x ∈ found ++ ss, x.length = n) → (found ++ ss).Pairwise (fun a b => leR b a = true) → (found ++ ss).Nodup → Anti found → Anti (ss.foldl greatStep found)
  | [], found, _, _, _, h => h
  | s :: ss, found, hl, ha, hn, h => by
    have hf : ∀ x ∈ found, x.length = n := fun x hx => hl x (List.mem_append.mpr (.inl hx))
    have hs : s.length = n := hl s (by simp)
    rw [List.foldl_cons]
    by_cases c : (found.filter fun one => within s one).isEmpty = true
    · have e : greatStep found s = found ++ [s] := by unfold greatStep; rw [if_pos c]
      have e1 : found ++ s :: ss = (found ++ [s]) ++ ss := by simp
      rw [e1] at hl ha hn
      rw [e]
      refine great_anti_go ss (found ++ [s]) hl ha hn ?_
      unfold Anti
      rw [List.pairwise_append]
      refine ⟨h, by simp, fun x hx y hy => ?_⟩
      simp at hy
      subst hy
      rw [List.isEmpty_iff] at c
      refine ⟨fun k => ?_, fun k => ?_⟩
      · have ha2 := (List.pairwise_append.mp ha).1
        have h3 := (List.pairwise_append.mp ha2).2.2 x hx y (by simp)
        unfold leR at h3
        have e2 := List.le_antisymm (leL_lex k) (of_decide_eq_true h3)
        have hn2 := (List.nodup_append.mp hn).1
        exact (List.nodup_append.mp hn2).2.2 x hx y (by simp) e2
      · have m : x ∈ found.filter fun one => within y one := List.mem_filter.mpr ⟨hx, (within_iff (by rw [hf x hx, hs])).mpr k⟩
        rw [c] at m
        simp at m
    · have e : greatStep found s = found := by unfold greatStep; rw [if_neg c]
      have sub : (found ++ ss).Sublist (found ++ s :: ss) := List.Sublist.append_left (List.sublist_cons_self s ss) found
      rw [e]
      exact great_anti_go ss found (fun x hx => hl x (sub.subset hx)) (ha.sublist sub) (hn.sublist sub) h
theorem great_anti {n : Nat} {ss : List Row} (hl : ∀ x ∈ ss, x.length = n) : Anti (greatest ss) := by
  unfold greatest
  refine great_anti_go (n := n) (unlike ss).reverse [] (fun x hx => hl x (unlike_mem.mp (by simpa using hx))) ?_ (by rw [List.nil_append]; unfold List.Nodup; rw [List.pairwise_reverse]; exact (unlike_nodup ss).imp fun h e => h e.symm) List.Pairwise.nil
  rw [List.nil_append, List.pairwise_reverse]
  exact sortR_asc (dedupR ss)
end K40
end
section
set_option Elab.async false
set_option linter.all false
set_option autoImplicit false
set_option maxRecDepth 100000
/-! Mathematics: what still_asked and plan_lacks tell. -/
namespace K40
open PySem PySem.Spec PyProof.Rows L2
/-- the last stair is the value -/
theorem last_dot : ∀ (us : List Int) (c : Int) (r : Row), r.length = us.length + 1 → (stairC us c r).getLastD 0 = c * (sizesM us).headD 1 + dot r (sizesM us)
  | [], c, [x], _ => by
    show c + x = c * 1 + (x * 1 + 0)
    omega
  | u :: us, c, x :: xs, h => by
    have h' : xs.length = us.length + 1 := by simpa using h
    have ih := last_dot us (u * (c + x)) xs h'
    have ne := stairC_ne (us := us) (c := u * (c + x)) h'
    show ((c + x) :: stairC us (u * (c + x)) xs).getLastD 0 = c * ((sizesM us).headD 1 * u) + (x * ((sizesM us).headD 1 * u) + dot xs (sizesM us))
    rw [getLastD_cons ne, ih]
    have : u * (c + x) * (sizesM us).headD 1 = c * ((sizesM us).headD 1 * u) + x * ((sizesM us).headD 1 * u) := by
      rw [← Int.add_mul, Int.mul_comm u, Int.mul_assoc, Int.mul_comm u]
    omega
theorem stair_last {us : List Int} {r : Row} (h : r.length = us.length + 1) : (stair us r).getLastD 0 = dot r (sizesM us) := by
  rw [stair_eq h, last_dot us 0 r h]
  omega
theorem zmax_iff : ∀ {a b t : List Int}, a.length = b.length → (leL (zmax a b) t ↔ leL a t ∧ leL b t)
  | [], [], [], _ => by simp [zmax, leL]
  | [], [], _ :: _, _ => by simp [zmax, leL]
  | x :: xs, y :: ys, [], _ => by simp [zmax, leL]
  | x :: xs, y :: ys, z :: zs, h => by
    have ih := zmax_iff (a := xs) (b := ys) (t := zs) (by simpa using h)
    show (max x y ≤ z ∧ leL (zmax xs ys) zs) ↔ (x ≤ z ∧ leL xs zs) ∧ (y ≤ z ∧ leL ys zs)
    rw [ih]
    constructor
    · rintro ⟨h1, h2, h3⟩
      exact ⟨⟨by omega, h2⟩, ⟨by omega, h3⟩⟩
    · rintro ⟨⟨h1, h2⟩, ⟨h3, h4⟩⟩
      exact ⟨by omega, h2, h4⟩
theorem zmax_chain : ∀ (us : List Int) (c d e : Int) (a b : List Int), pos1 us → e ≤ max c d → a.length = us.length + 1 → b.length = us.length + 1 → nn (rowC us c a) → nn (rowC us d b) → nn (rowC us e (zmax a b))
  | [], c, d, e, [x], [y], _, he, _, _, h, k => fun z hz => by
    have h1 : 0 ≤ x - c := nn.head h
    have h2 : 0 ≤ y - d := nn.head k
    have hz : z ∈ [max x y - e] := hz
    simp at hz
    omega
  | u :: us, c, d, e, x :: xs, y :: ys, hu, he, la, lb, h, k => by
    have h1 : 0 ≤ x - c := nn.head h
    have h2 : 0 ≤ y - d := nn.head k
    have hu1 := hu u (by simp)
    have hm : u * max x y ≤ max (u * x) (u * y) := by
      by_cases q : x ≤ y
      · rw [Int.max_eq_right q]
        omega
      · rw [Int.max_eq_left (by omega)]
        omega
    have ih := zmax_chain us (u * x) (u * y) (u * max x y) xs ys hu.tail hm (by simpa using la) (by simpa using lb) (nn.tail h) (nn.tail k)
    intro z hz
    rcases List.mem_cons.mp hz with e1 | m
    · omega
    · exact ih z m
theorem zmax_isSt {us : List Int} {a b : Row} (hu : pos1 us) (ha : IsSt us a) (hb : IsSt us b) : IsSt us (zmax a b) :=
  ⟨by rw [zmax_length (by rw [ha.len, hb.len]), ha.len], zmax_chain us 0 0 0 a b hu (by omega) ha.len hb.len ha.ok hb.ok⟩
theorem rowC_add : ∀ (us : List Int) (c d : Int) (a b : List Int), a.length = us.length + 1 → b.length = us.length + 1 → rowC us (c + d) (zadd a b) = zadd (rowC us c a) (rowC us d b)
  | [], c, d, [x], [y], _, _ => by
    show [x + y - (c + d)] = [x - c + (y - d)]
    congr 1
    omega
  | u :: us, c, d, x :: xs, y :: ys, h1, h2 => by
    show (x + y - (c + d)) :: rowC us (u * (x + y)) (zadd xs ys) = (x - c + (y - d)) :: zadd (rowC us (u * x) xs) (rowC us (u * y) ys)
    rw [Int.mul_add, rowC_add us _ _ xs ys (by simpa using h1) (by simpa using h2), show x + y - (c + d) = x - c + (y - d) by omega]
theorem zadd_isSt {us : List Int} {a b : Row} (ha : IsSt us a) (hb : IsSt us b) : IsSt us (zadd a b) := by
  refine ⟨zadd_len' ha.len hb.len, ?_⟩
  have := rowC_add us 0 0 a b ha.len hb.len
  rw [Int.add_zero] at this
  rw [this]
  exact nn_zadd ha.ok hb.ok
theorem zeros_isSt (us : List Int) : IsSt us (List.replicate (us.length + 1) 0) := by
  refine ⟨by simp, ?_⟩
  have go : ∀ (us : List Int), nn (rowC us 0 (List.replicate (us.length + 1) 0)) := by
    intro us
    induction us with
    | nil =>
      intro z hz
      have hz : z ∈ [(0 : Int) - 0] := hz
      simp at hz
      omega
    | cons u us ih =>
      intro z hz
      have hz : z ∈ ((0 : Int) - 0) :: rowC us (u * 0) (List.replicate (us.length + 1) 0) := hz
      rw [Int.mul_zero] at hz
      rcases List.mem_cons.mp hz with e | m
      · omega
      · exact ih z m
  exact go us
theorem zeros_le : ∀ {n : Nat} {y : List Int}, y.length = n → (leL (List.replicate n 0) y ↔ nn y)
  | 0, [], _ => by simp [leL, nn]
  | n + 1, x :: xs, h => by
    have ih := zeros_le (n := n) (y := xs) (by simpa using h)
    show (0 ≤ x ∧ leL (List.replicate n 0) xs) ↔ _
    rw [ih]
    constructor
    · rintro ⟨h1, h2⟩ z hz
      rcases List.mem_cons.mp hz with e | m
      · omega
      · exact h2 z m
    · exact fun h => ⟨h.head, h.tail⟩
theorem RowOk.nn {us : List Int} {m : Int} {r : Row} (h : RowOk us m r) : K40.nn r := h.2.1
theorem RowOk.isSt {us : List Int} {m : Int} {r : Row} (h : RowOk us m r) : IsSt us (stair us r) := isSt_of h.1 h.2.1
/-- how many -/
def cnt : Nat → Nat
  | 0 => 1
  | d + 1 => max (cnt d * cnt d) (2 * cnt d)
theorem cnt_pos : ∀ d, 1 ≤ cnt d
  | 0 => Nat.le_refl _
  | d + 1 => by
    have := cnt_pos d
    show 1 ≤ max _ _
    omega
/-- what is known of the least stairs of a drawn plan -/
structure LeastOk (us : List Int) (d : Nat) (p : Plan) (L : List Row) : Prop where
  eq : least us p = some L
  st : ∀ y ∈ L, IsSt us y
  last : ∀ y ∈ L, y.getLastD 0 ≤ 5 * (d : Int)
  few : L.length ≤ cnt d
  ne : L ≠ []
  any : ∀ s : Row, IsSt us s → (livesS us p s = true ↔ ∃ y ∈ L, leL y s)
  asc : Asc L
  anti : Anti L
  nodup : L.Nodup
theorem kept_ne {n : Nat} {ss out : List Row} (hs : ∀ x ∈ ss, x.length = n) (e : kept ss = some out) (h : ss ≠ []) : out ≠ [] := by
  intro z
  obtain ⟨x, hx⟩ := List.exists_mem_of_ne_nil _ h
  obtain ⟨y, hy, _⟩ := (kept_any hs e x).mpr ⟨x, hx, .refl x⟩
  rw [z] at hy
  simp at hy
/-- d is small enough, or there is at most one ratio -/
def SmallD (us : List Int) (d : Nat) : Prop := d ≤ 3 ∨ (d ≤ 4 ∧ us.length ≤ 1)
theorem kept_ok {us : List Int} {d : Nat} (hu : pos1 us) (hd : SmallD us d) {ss : List Row} (st : ∀ y ∈ ss, IsSt us y) (last : ∀ y ∈ ss, y.getLastD 0 ≤ 5 * (d : Int)) (few : ss.length ≤ cnt d) : ∃ out, kept ss = some out ∧ out.length ≤ cnt d := by
  rcases hd with h3 | ⟨h4, h1⟩
  · have : cnt d ≤ 16 := by
      have : ∀ k : Nat, k ≤ 3 → cnt k ≤ 16 := by decide
      exact this d h3
    obtain ⟨out, a, b⟩ := kept_few (ss := ss) (by omega)
    exact ⟨out, a, by omega⟩
  · by_cases h3 : d ≤ 3
    · have : cnt d ≤ 16 := by
        have : ∀ k : Nat, k ≤ 3 → cnt k ≤ 16 := by decide
        exact this d h3
      obtain ⟨out, a, b⟩ := kept_few (ss := ss) (by omega)
      exact ⟨out, a, by omega⟩
    · have e : d = 4 := by omega
      obtain ⟨out, a⟩ := kept_low hu h1 (ss := ss) fun y hy => ⟨st y hy, by have := last y hy; rw [e] at this; omega⟩
      have := kept_length a
      have : 40 ≤ cnt 4 := by decide
      exact ⟨out, a, by rw [e]; omega⟩
/-- a list kept is well -/
theorem leastOk_of {us : List Int} {d : Nat} {p : Plan} {ss out : List Row} (e : least us p = kept ss) (k : kept ss = some out) (few : out.length ≤ cnt d) (ne : ss ≠ []) (st : ∀ y ∈ ss, IsSt us y) (last : ∀ y ∈ ss, y.getLastD 0 ≤ 5 * (d : Int))
    (any : ∀ s : Row, IsSt us s → (livesS us p s = true ↔ ∃ y ∈ ss, leL y s)) : LeastOk us d p out := by
  have hs : ∀ x ∈ ss, x.length = us.length + 1 := fun x hx => (st x hx).len
  obtain ⟨a1, a2, a3⟩ := kept_anti hs k
  exact ⟨e.trans k, fun y hy => st y (kept_mem k hy), fun y hy => last y (kept_mem k hy), few, kept_ne hs k ne, fun s hs' => (any s hs').trans (kept_any hs k s).symm, a1, a2, a3⟩
theorem last_zmax : ∀ {a b : List Int} {m : Int}, a.length = b.length → a ≠ [] → a.getLastD 0 ≤ m → b.getLastD 0 ≤ m → (zmax a b).getLastD 0 ≤ m
  | [x], [y], m, _, _, h, k => by
    have h : x ≤ m := h
    have k : y ≤ m := k
    show max x y ≤ m
    omega
  | x :: x2 :: xs, y :: y2 :: ys, m, h, _, h1, h2 => last_zmax (a := x2 :: xs) (b := y2 :: ys) (by simpa using h) (by simp) h1 h2
theorem SmallD.pred {us : List Int} {d : Nat} (h : SmallD us (d + 1)) : SmallD us d := by
  unfold SmallD at h ⊢
  omega
theorem last_rep : ∀ n : Nat, (List.replicate n (0 : Int)).getLastD 0 = 0
  | 0 => rfl
  | 1 => rfl
  | n + 2 => last_rep (n + 1)
theorem least_ok {us : List Int} (hu : pos1 us) : ∀ (d : Nat) (p : Plan), Drawn us d p → SmallD us d → ∃ L, LeastOk us d p L
  | d, .fin, _, _ => by
    refine ⟨[List.replicate (us.length + 1) 0], rfl, fun y hy => ?_, fun y hy => ?_, cnt_pos d, by simp, fun s st => ?_, by unfold Asc; simp, by unfold Anti; simp, by simp⟩
    · simp at hy
      rw [hy]
      exact zeros_isSt us
    · simp at hy
      rw [hy, last_rep]
      omega
    · constructor
      · intro _
        exact ⟨_, by simp, (zeros_le st.len).mpr (st.nn hu)⟩
      · intro _
        rfl
  | 0, .ask _ _, h, _ => h.elim
  | 0, .bring _ _, h, _ => h.elim
  | 0, .either _ _, h, _ => h.elim
  | 0, .ours _ _, h, _ => h.elim
  | d + 1, .ask r p, h, hd => by
    obtain ⟨L, lo⟩ := least_ok hu d p h.2 hd.pred
    have rs := h.1.isSt
    have rl := stair_last h.1.1
    have c1 := cnt_pos d
    have cc : cnt (d + 1) = max (cnt d * cnt d) (2 * cnt d) := rfl
    have st : ∀ y ∈ L.map (fun o => zadd (stair us r) o), IsSt us y := fun y hy => by
      obtain ⟨o, ho, rfl⟩ := List.mem_map.mp hy
      exact zadd_isSt rs (lo.st o ho)
    have last : ∀ y ∈ L.map (fun o => zadd (stair us r) o), y.getLastD 0 ≤ 5 * ((d + 1 : Nat) : Int) := fun y hy => by
      obtain ⟨o, ho, rfl⟩ := List.mem_map.mp hy
      rw [last_zadd (by rw [rs.len, (lo.st o ho).len]), rl]
      have := lo.last o ho
      have := h.1.2.2
      omega
    obtain ⟨out, k, few⟩ := kept_ok hu hd st last (by rw [List.length_map]; have := lo.few; omega)
    refine ⟨out, leastOk_of (by show (least us p).bind _ = _; rw [lo.eq]; rfl) k few (by simpa using lo.ne) st last fun s ss => ?_⟩
    have ld := zsub_len' (us := us) ss.len rs.len
    constructor
    · intro l
      simp only [livesS, down] at l
      by_cases g : geZ (zsub s (stair us r)) = true
      · rw [if_pos g] at l
        have sd := down_isSt hu ld (geZ_iff.mp g)
        obtain ⟨y, hy, hl⟩ := (lo.any _ sd).mp l
        have h2 := (down_iff hu ld (lo.st y hy)).mp hl
        refine ⟨_, List.mem_map.mpr ⟨y, hy, rfl⟩, ?_⟩
        rw [zadd_comm]
        exact (leL_sub (by rw [(lo.st y hy).len, ss.len]) (by rw [rs.len, ss.len])).mpr h2
      · rw [if_neg g] at l
        cases l
    · rintro ⟨y, hy, hl⟩
      obtain ⟨o, ho, rfl⟩ := List.mem_map.mp hy
      rw [zadd_comm, leL_sub (by rw [(lo.st o ho).len, ss.len]) (by rw [rs.len, ss.len])] at hl
      have n1 := leL_nn hl ((lo.st o ho).nn hu)
      simp only [livesS, down]
      rw [if_pos (geZ_iff.mpr n1)]
      exact (lo.any _ (down_isSt hu ld n1)).mpr ⟨o, ho, (down_iff hu ld (lo.st o ho)).mpr hl⟩
  | d + 1, .bring r p, h, hd => by
    obtain ⟨L, lo⟩ := least_ok hu d p h.2 hd.pred
    have rs := h.1.isSt
    have c1 := cnt_pos d
    have cc : cnt (d + 1) = max (cnt d * cnt d) (2 * cnt d) := rfl
    have lz : ∀ o ∈ L, (zsub o (stair us r)).length = us.length + 1 := fun o ho => zsub_len' (lo.st o ho).len rs.len
    have st : ∀ y ∈ L.map (fun o => up us (zsub o (stair us r))), IsSt us y := fun y hy => by
      obtain ⟨o, ho, rfl⟩ := List.mem_map.mp hy
      exact up_isSt (lz o ho)
    have last : ∀ y ∈ L.map (fun o => up us (zsub o (stair us r))), y.getLastD 0 ≤ 5 * ((d + 1 : Nat) : Int) := fun y hy => by
      obtain ⟨o, ho, rfl⟩ := List.mem_map.mp hy
      have so := lo.st o ho
      have h1 : leL (zsub o (stair us r)) o := by
        rw [leL_sub' rfl (by rw [rs.len, so.len])]
        have hz : leL (zadd o (List.replicate (us.length + 1) 0)) (zadd o (stair us r)) := leL_zadd (.refl o) ((zeros_le rs.len).mpr (rs.nn hu))
        have e : zadd o (List.replicate (us.length + 1) 0) = o := by
          have go : ∀ (n : Nat) (o : List Int), o.length = n → zadd o (List.replicate n 0) = o := by
            intro n
            induction n with
            | zero => intro o ho; cases o with
              | nil => rfl
              | cons _ _ => simp at ho
            | succ n ih => intro o ho; cases o with
              | nil => simp at ho
              | cons x xs =>
                show (x + 0) :: zadd xs (List.replicate n 0) = _
                rw [ih xs (by simpa using ho), Int.add_zero]
          exact go _ o so.len
        rw [e] at hz
        exact hz
      have h2 := last_le ((up_iff hu (lz o ho) so).mpr h1)
      have := lo.last o ho
      omega
    obtain ⟨out, k, few⟩ := kept_ok hu hd st last (by rw [List.length_map]; have := lo.few; omega)
    refine ⟨out, leastOk_of (by show (least us p).bind _ = _; rw [lo.eq]; rfl) k few (by simpa using lo.ne) st last fun s ss => ?_⟩
    show livesS us p (zadd s (stair us r)) = true ↔ _
    rw [lo.any _ (zadd_isSt ss rs)]
    constructor
    · rintro ⟨y, hy, hl⟩
      exact ⟨_, List.mem_map.mpr ⟨y, hy, rfl⟩, (up_iff hu (lz y hy) ss).mpr ((leL_sub' (by rw [(lo.st y hy).len, ss.len]) (by rw [rs.len, ss.len])).mpr hl)⟩
    · rintro ⟨z, hz, hl⟩
      obtain ⟨y, hy, rfl⟩ := List.mem_map.mp hz
      exact ⟨y, hy, (leL_sub' (by rw [(lo.st y hy).len, ss.len]) (by rw [rs.len, ss.len])).mp ((up_iff hu (lz y hy) ss).mp hl)⟩
  | d + 1, .either a b, h, hd => by
    obtain ⟨L, lo⟩ := least_ok hu d a h.1 hd.pred
    obtain ⟨M, mo⟩ := least_ok hu d b h.2 hd.pred
    have cc : cnt (d + 1) = max (cnt d * cnt d) (2 * cnt d) := rfl
    have mem : ∀ y, y ∈ pairs L M ↔ ∃ x ∈ L, ∃ z ∈ M, y = zmax x z := fun y => by
      unfold pairs
      rw [List.mem_flatMap]
      constructor
      · rintro ⟨x, hx, hy⟩
        obtain ⟨z, hz, rfl⟩ := List.mem_map.mp hy
        exact ⟨x, hx, z, hz, rfl⟩
      · rintro ⟨x, hx, z, hz, rfl⟩
        exact ⟨x, hx, List.mem_map.mpr ⟨z, hz, rfl⟩⟩
    have st : ∀ y ∈ pairs L M, IsSt us y := fun y hy => by
      obtain ⟨x, hx, z, hz, rfl⟩ := (mem y).mp hy
      exact zmax_isSt hu (lo.st x hx) (mo.st z hz)
    have last : ∀ y ∈ pairs L M, y.getLastD 0 ≤ 5 * ((d + 1 : Nat) : Int) := fun y hy => by
      obtain ⟨x, hx, z, hz, rfl⟩ := (mem y).mp hy
      have l1 := (lo.st x hx).len
      have l2 := (mo.st z hz).len
      have := lo.last x hx
      have := mo.last z hz
      exact last_zmax (by omega) (fun e => by rw [e] at l1; simp at l1) (by omega) (by omega)
    have pl := pairs_length L M
    have h1 := Nat.mul_le_mul lo.few mo.few
    obtain ⟨out, k, few⟩ := kept_ok hu hd st last (by omega)
    refine ⟨out, leastOk_of (by show (least us a).bind _ = _; rw [lo.eq]; show (least us b).bind _ = _; rw [mo.eq]; rfl) k few ?_ st last fun s ss => ?_⟩
    · obtain ⟨x, hx⟩ := List.exists_mem_of_ne_nil _ lo.ne
      obtain ⟨z, hz⟩ := List.exists_mem_of_ne_nil _ mo.ne
      intro e
      have := (mem _).mpr ⟨x, hx, z, hz, rfl⟩
      rw [e] at this
      simp at this
    · simp only [livesS, Bool.and_eq_true]
      rw [lo.any s ss, mo.any s ss]
      constructor
      · rintro ⟨⟨x, hx, hl⟩, ⟨z, hz, hm⟩⟩
        exact ⟨_, (mem _).mpr ⟨x, hx, z, hz, rfl⟩, (zmax_iff (by rw [(lo.st x hx).len, (mo.st z hz).len])).mpr ⟨hl, hm⟩⟩
      · rintro ⟨y, hy, hl⟩
        obtain ⟨x, hx, z, hz, rfl⟩ := (mem y).mp hy
        obtain ⟨h1, h2⟩ := (zmax_iff (by rw [(lo.st x hx).len, (mo.st z hz).len])).mp hl
        exact ⟨⟨x, hx, h1⟩, ⟨z, hz, h2⟩⟩
  | d + 1, .ours a b, h, hd => by
    obtain ⟨L, lo⟩ := least_ok hu d a h.1 hd.pred
    obtain ⟨M, mo⟩ := least_ok hu d b h.2 hd.pred
    have cc : cnt (d + 1) = max (cnt d * cnt d) (2 * cnt d) := rfl
    have st : ∀ y ∈ L ++ M, IsSt us y := fun y hy => by
      rcases List.mem_append.mp hy with h | h
      · exact lo.st y h
      · exact mo.st y h
    have last : ∀ y ∈ L ++ M, y.getLastD 0 ≤ 5 * ((d + 1 : Nat) : Int) := fun y hy => by
      rcases List.mem_append.mp hy with h | h
      · have := lo.last y h
        omega
      · have := mo.last y h
        omega
    obtain ⟨out, k, few⟩ := kept_ok hu hd st last (by rw [List.length_append]; have := lo.few; have := mo.few; omega)
    refine ⟨out, leastOk_of (by show (least us a).bind _ = _; rw [lo.eq]; show (least us b).bind _ = _; rw [mo.eq]; rfl) k few (by simp [lo.ne]) st last fun s ss => ?_⟩
    simp only [livesS, Bool.or_eq_true]
    rw [lo.any s ss, mo.any s ss]
    constructor
    · rintro (⟨x, hx, hl⟩ | ⟨x, hx, hl⟩)
      · exact ⟨x, List.mem_append.mpr (.inl hx), hl⟩
      · exact ⟨x, List.mem_append.mpr (.inr hx), hl⟩
    · rintro ⟨x, hx, hl⟩
      rcases List.mem_append.mp hx with h | h
      · exact .inl ⟨x, h, hl⟩
      · exact .inr ⟨x, h, hl⟩
end K40
end
section
set_option Elab.async false
set_option linter.all false
set_option autoImplicit false
set_option maxRecDepth 100000
/-! Mathematics: the two lists that are told. -/
namespace K40
open PySem PySem.Spec PyProof.Rows L2
/-- rows in order, none within another -/
structure RowsOk (us : List Int) (A : List Row) : Prop where
  len : ∀ a ∈ A, a.length = us.length + 1
  pos : ∀ a ∈ A, nn a
  asc : Asc A
  anti : A.Pairwise fun a b => within (stair us a) (stair us b) = false ∧ within (stair us b) (stair us a) = false
theorem rowsOf_mem {us : List Int} {Z : List Row} {a : Row} : a ∈ rowsOf us Z ↔ ∃ z ∈ Z, a = row us z := by
  unfold rowsOf
  rw [sortR_mem, List.mem_map]
  constructor
  · rintro ⟨z, h1, h2⟩
    exact ⟨z, h1, h2.symm⟩
  · rintro ⟨z, h1, h2⟩
    exact ⟨z, h1, h2.symm⟩
theorem rowsOf_length (us : List Int) (Z : List Row) : (rowsOf us Z).length = Z.length := by
  unfold rowsOf sortR
  rw [List.length_mergeSort, List.length_map]
theorem rowsOf_ok {us : List Int} {Z : List Row} (st : ∀ z ∈ Z, IsSt us z) (an : Anti Z) : RowsOk us (rowsOf us Z) := by
  refine ⟨fun a ha => ?_, fun a ha => ?_, sortR_asc _, ?_⟩
  · obtain ⟨z, hz, rfl⟩ := rowsOf_mem.mp ha
    exact row_length (st z hz).len
  · obtain ⟨z, hz, rfl⟩ := rowsOf_mem.mp ha
    exact (st z hz).row
  · unfold rowsOf
    refine ((sortR_perm _).pairwise_iff (fun {x y} h => ⟨h.2, h.1⟩)).mpr ?_
    rw [List.pairwise_map]
    refine an.imp_of_mem fun {a b} ha hb h => ?_
    have sa := st a ha
    have sb := st b hb
    rw [sa.stair, sb.stair]
    refine ⟨?_, ?_⟩
    · rw [Bool.eq_false_iff]
      exact fun z => h.1 ((within_iff (by rw [sa.len, sb.len])).mp z)
    · rw [Bool.eq_false_iff]
      exact fun z => h.2 ((within_iff (by rw [sa.len, sb.len])).mp z)
section
variable {us : List Int} {d : Nat} {p : Plan} {L : List Row} {stock : Row}
theorem asked_facts (hu : pos1 us) (lo : LeastOk us d p L) (hl : stock.length = us.length + 1) (hn : nn stock) :
    ∃ A, askedM us p stock = some A ∧ RowsOk us A ∧ (A = [] ↔ livesS us p (stair us stock) = false) ∧
      (∀ r : Row, r.length = us.length + 1 → nn r → (A.any fun a => within (stair us r) (stair us a)) = livesS us (.ask r p) (stair us stock)) ∧ (∀ a ∈ A, leL (stair us a) (stair us stock)) ∧ A.length ≤ L.length := by
  have ss := isSt_of hl hn
  have il : ∀ o ∈ L.filter (fun o => within o (stair us stock)), o ∈ L ∧ leL o (stair us stock) := fun o ho => by
    obtain ⟨h1, h2⟩ := List.mem_filter.mp ho
    exact ⟨h1, (within_iff (by rw [(lo.st o h1).len, ss.len])).mp h2⟩
  have mk : ∀ g ∈ (L.filter fun o => within o (stair us stock)).map (fun o => goD us (zsub (stair us stock) o)), ∃ o ∈ L, leL o (stair us stock) ∧ g = goD us (zsub (stair us stock) o) ∧ (zsub (stair us stock) o).length = us.length + 1 ∧ nn (zsub (stair us stock) o) := fun g hg => by
    obtain ⟨o, ho, rfl⟩ := List.mem_map.mp hg
    obtain ⟨h1, h2⟩ := il o ho
    exact ⟨o, h1, h2, rfl, zsub_len' ss.len (lo.st o h1).len, (nn_sub (by rw [(lo.st o h1).len, ss.len])).mpr h2⟩
  have st : ∀ g ∈ (L.filter fun o => within o (stair us stock)).map (fun o => goD us (zsub (stair us stock) o)), IsSt us g := fun g hg => by
    obtain ⟨o, h1, h2, rfl, h4, h5⟩ := mk g hg
    exact down_isSt hu h4 h5
  have lens : ∀ g ∈ (L.filter fun o => within o (stair us stock)).map (fun o => goD us (zsub (stair us stock) o)), g.length = us.length + 1 := fun g hg => (st g hg).len
  have any : ∀ t, IsSt us t → ((∃ g ∈ greatest ((L.filter fun o => within o (stair us stock)).map fun o => goD us (zsub (stair us stock) o)), leL t g) ↔ ∃ y ∈ L, leL (zadd t y) (stair us stock)) := fun t ht => by
    rw [great_any lens t]
    constructor
    · rintro ⟨g, hg, hle⟩
      obtain ⟨o, h1, h2, rfl, h4, h5⟩ := mk g hg
      exact ⟨o, h1, (leL_sub (by rw [ht.len, ss.len]) (by rw [(lo.st o h1).len, ss.len])).mpr ((down_iff hu h4 ht).mp hle)⟩
    · rintro ⟨y, hy, hle⟩
      have hy2 := lo.st y hy
      have h1 := (leL_sub (by rw [ht.len, ss.len]) (by rw [hy2.len, ss.len])).mp hle
      have n1 := leL_nn h1 (ht.nn hu)
      have h2 : leL y (stair us stock) := (nn_sub (by rw [hy2.len, ss.len])).mp n1
      exact ⟨_, List.mem_map.mpr ⟨y, List.mem_filter.mpr ⟨hy, (within_iff (by rw [hy2.len, ss.len])).mpr h2⟩, rfl⟩, (down_iff hu (zsub_len' ss.len hy2.len) ht).mpr h1⟩
  have gst : ∀ g ∈ greatest ((L.filter fun o => within o (stair us stock)).map fun o => goD us (zsub (stair us stock) o)), IsSt us g := fun g hg => st g (great_mem hg)
  refine ⟨_, by unfold askedM; rw [lo.eq]; rfl, rowsOf_ok gst (great_anti lens), ?_, fun r hr hrn => ?_, fun a ha => ?_, ?_⟩
  · rw [← List.length_eq_zero_iff, rowsOf_length, List.length_eq_zero_iff, ← Bool.not_eq_true, lo.any _ ss]
    constructor
    · rintro e ⟨y, hy, hle⟩
      have z := (any (List.replicate (us.length + 1) 0) (zeros_isSt us)).mpr ⟨y, hy, by
        have zz : zadd (List.replicate (us.length + 1) 0) y = y := by
          have h0 : leL (List.replicate (us.length + 1) 0) (zsub (stair us stock) y) := (zeros_le (zsub_len' ss.len (lo.st y hy).len)).mpr ((nn_sub (by rw [(lo.st y hy).len, ss.len])).mpr hle)
          have go : ∀ (n : Nat) (o : List Int), o.length = n → zadd (List.replicate n 0) o = o := by
            intro n
            induction n with
            | zero => intro o ho; cases o with
              | nil => rfl
              | cons _ _ => simp at ho
            | succ n ih => intro o ho; cases o with
              | nil => simp at ho
              | cons x xs =>
                show (0 + x) :: zadd (List.replicate n 0) xs = _
                rw [ih xs (by simpa using ho), Int.zero_add]
          exact go _ y (lo.st y hy).len
        rw [zz]
        exact hle⟩
      obtain ⟨g, hg, _⟩ := z
      rw [e] at hg
      simp at hg
    · intro h
      rcases List.eq_nil_or_concat (greatest ((L.filter fun o => within o (stair us stock)).map fun o => goD us (zsub (stair us stock) o))) with e | ⟨G, g, e⟩
      · exact e
      · exfalso
        obtain ⟨o, h1, h2, _⟩ := mk g (great_mem (by rw [e]; simp))
        exact h ⟨o, h1, h2⟩
  · have sr := isSt_of hr hrn
    rw [Bool.eq_iff_iff, List.any_eq_true]
    have ld := zsub_len' (us := us) ss.len sr.len
    constructor
    · rintro ⟨a, ha, hw⟩
      obtain ⟨g, hg, rfl⟩ := rowsOf_mem.mp ha
      have sg := gst g hg
      rw [sg.stair] at hw
      obtain ⟨y, hy, hle⟩ := (any _ sr).mp ⟨g, hg, (within_iff (by rw [sr.len, sg.len])).mp hw⟩
      rw [zadd_comm, leL_sub (by rw [(lo.st y hy).len, ss.len]) (by rw [sr.len, ss.len])] at hle
      have n1 := leL_nn hle ((lo.st y hy).nn hu)
      simp only [livesS, down]
      rw [if_pos (geZ_iff.mpr n1)]
      exact (lo.any _ (down_isSt hu ld n1)).mpr ⟨y, hy, (down_iff hu ld (lo.st y hy)).mpr hle⟩
    · intro l
      simp only [livesS, down] at l
      by_cases g : geZ (zsub (stair us stock) (stair us r)) = true
      · rw [if_pos g] at l
        obtain ⟨y, hy, hle⟩ := (lo.any _ (down_isSt hu ld (geZ_iff.mp g))).mp l
        have h2 := (down_iff hu ld (lo.st y hy)).mp hle
        have h3 := (leL_sub (by rw [(lo.st y hy).len, ss.len]) (by rw [sr.len, ss.len])).mpr h2
        rw [zadd_comm] at h3
        obtain ⟨g, hg, hl2⟩ := (any _ sr).mpr ⟨y, hy, h3⟩
        have sg := gst g hg
        exact ⟨row us g, rowsOf_mem.mpr ⟨g, hg, rfl⟩, by rw [sg.stair]; exact (within_iff (by rw [sr.len, sg.len])).mpr hl2⟩
      · rw [if_neg g] at l
        cases l
  · obtain ⟨g, hg, rfl⟩ := rowsOf_mem.mp ha
    rw [(gst g hg).stair]
    obtain ⟨o, h1, h2, rfl, h4, h5⟩ := mk g (great_mem hg)
    have h6 := goD_le us _ h4
    have h7 : leL (zsub (stair us stock) o) (stair us stock) := by
      rw [leL_sub' rfl (by rw [(lo.st o h1).len, ss.len])]
      have hz : leL (zadd (stair us stock) (List.replicate (us.length + 1) 0)) (zadd (stair us stock) o) := leL_zadd (.refl _) ((zeros_le (lo.st o h1).len).mpr ((lo.st o h1).nn hu))
      have go : ∀ (n : Nat) (o : List Int), o.length = n → zadd o (List.replicate n 0) = o := by
        intro n
        induction n with
        | zero => intro o ho; cases o with
          | nil => rfl
          | cons _ _ => simp at ho
        | succ n ih => intro o ho; cases o with
          | nil => simp at ho
          | cons x xs =>
            show (x + 0) :: zadd xs (List.replicate n 0) = _
            rw [ih xs (by simpa using ho), Int.add_zero]
      rw [go _ _ ss.len] at hz
      exact hz
    exact h6.trans h7
  · rw [rowsOf_length]
    refine Nat.le_trans (great_length _) ?_
    rw [List.length_map]
    exact List.length_filter_le _ _
theorem row_zeros (us : List Int) : row us (List.replicate (us.length + 1) 0) = List.replicate (us.length + 1) 0 := by
  rw [row_eq (by simp)]
  induction us with
  | nil => rfl
  | cons u us ih =>
    show ((0 : Int) - 0) :: rowC us (u * 0) (List.replicate (us.length + 1) 0) = _
    rw [Int.mul_zero, ih]
    rfl
theorem stair_zeros (us : List Int) : stair us (List.replicate (us.length + 1) 0) = List.replicate (us.length + 1) 0 := by
  have h := row_zeros us
  have s := (zeros_isSt us).stair
  rw [h] at s
  exact s
theorem only_zeros {z : Row} {Z : List Row} (le : ∀ y ∈ Z, leL z y) (an : Anti Z) (nd : Z.Nodup) (hz : z ∈ Z) : Z = [z] := by
  have all : ∀ y ∈ Z, y = z := fun y hy => by
    obtain ⟨i, hi, ei⟩ := List.mem_iff_getElem.mp hy
    obtain ⟨j, hj, ej⟩ := List.mem_iff_getElem.mp hz
    have pw := List.pairwise_iff_getElem.mp an
    have l := le y hy
    by_cases h1 : i = j
    · subst h1
      rw [← ei, ej]
    · rcases Nat.lt_or_gt_of_ne h1 with h | h
      · have q := (pw i j hi hj h).2
        rw [ei, ej] at q
        exact absurd l q
      · have q := (pw j i hj hi h).1
        rw [ei, ej] at q
        exact absurd l q
  cases Z with
  | nil => simp at hz
  | cons a as =>
    cases as with
    | nil => rw [all a (by simp)]
    | cons b bs =>
      exfalso
      rw [all a (by simp), all b (by simp)] at nd
      simp at nd
theorem lacks_facts (hu : pos1 us) (hd : SmallD us d) (lo : LeastOk us d p L) (hl : stock.length = us.length + 1) (hn : nn stock) :
    ∃ B, lacksM us p stock = some B ∧ RowsOk us B ∧ B ≠ [] ∧ (B = [List.replicate (us.length + 1) 0] ↔ livesS us p (stair us stock) = true) ∧
      (∀ r : Row, r.length = us.length + 1 → nn r → (B.any fun b => within (stair us b) (stair us r)) = livesS us p (stair us (zadd stock r))) ∧ (∀ b ∈ B, (stair us b).getLastD 0 ≤ 5 * (d : Int)) ∧ B.length ≤ 40 := by
  have ss := isSt_of hl hn
  have lz : ∀ o ∈ L, (zsub o (stair us stock)).length = us.length + 1 := fun o ho => zsub_len' (lo.st o ho).len ss.len
  have st : ∀ y ∈ L.map (fun o => up us (zsub o (stair us stock))), IsSt us y := fun y hy => by
    obtain ⟨o, ho, rfl⟩ := List.mem_map.mp hy
    exact up_isSt (lz o ho)
  have last : ∀ y ∈ L.map (fun o => up us (zsub o (stair us stock))), y.getLastD 0 ≤ 5 * (d : Int) := fun y hy => by
    obtain ⟨o, ho, rfl⟩ := List.mem_map.mp hy
    have so := lo.st o ho
    have h1 : leL (zsub o (stair us stock)) o := by
      rw [leL_sub' rfl (by rw [ss.len, so.len])]
      have hz : leL (zadd o (List.replicate (us.length + 1) 0)) (zadd o (stair us stock)) := leL_zadd (.refl o) ((zeros_le ss.len).mpr (ss.nn hu))
      have go : ∀ (n : Nat) (o : List Int), o.length = n → zadd o (List.replicate n 0) = o := by
        intro n
        induction n with
        | zero => intro o ho; cases o with
          | nil => rfl
          | cons _ _ => simp at ho
        | succ n ih => intro o ho; cases o with
          | nil => simp at ho
          | cons x xs =>
            show (x + 0) :: zadd xs (List.replicate n 0) = _
            rw [ih xs (by simpa using ho), Int.add_zero]
      rw [go _ _ so.len] at hz
      exact hz
    have h2 := last_le ((up_iff hu (lz o ho) so).mpr h1)
    have := lo.last o ho
    omega
  obtain ⟨Z, k, few⟩ := kept_ok hu hd st last (by rw [List.length_map]; exact lo.few)
  have lens : ∀ x ∈ L.map (fun o => up us (zsub o (stair us stock))), x.length = us.length + 1 := fun x hx => (st x hx).len
  obtain ⟨a1, a2, a3⟩ := kept_anti lens k
  have zst : ∀ z ∈ Z, IsSt us z := fun z hz => st z (kept_mem k hz)
  have any : ∀ t, IsSt us t → ((∃ z ∈ Z, leL z t) ↔ livesS us p (zadd (stair us stock) t) = true) := fun t ht => by
    rw [kept_any lens k t, lo.any _ (zadd_isSt ss ht)]
    constructor
    · rintro ⟨y, hy, hle⟩
      obtain ⟨o, ho, rfl⟩ := List.mem_map.mp hy
      have h1 := (up_iff hu (lz o ho) ht).mp hle
      rw [leL_sub' (by rw [(lo.st o ho).len, ht.len]) (by rw [ss.len, ht.len]), zadd_comm] at h1
      exact ⟨o, ho, h1⟩
    · rintro ⟨o, ho, hle⟩
      rw [zadd_comm] at hle
      exact ⟨_, List.mem_map.mpr ⟨o, ho, rfl⟩, (up_iff hu (lz o ho) ht).mpr ((leL_sub' (by rw [(lo.st o ho).len, ht.len]) (by rw [ss.len, ht.len])).mpr hle)⟩
  have zne : Z ≠ [] := kept_ne lens k (by simpa using lo.ne)
  refine ⟨rowsOf us Z, by unfold lacksM; rw [lo.eq]; show (kept _).map _ = _; rw [k]; rfl, rowsOf_ok zst a2, ?_, ?_, fun r hr hrn => ?_, fun b hb => ?_, by rw [rowsOf_length]; exact kept_length k⟩
  · intro e
    have := rowsOf_length us Z
    rw [e] at this
    exact zne (List.length_eq_zero_iff.mp this.symm)
  · have za := any (List.replicate (us.length + 1) 0) (zeros_isSt us)
    have zz : zadd (stair us stock) (List.replicate (us.length + 1) 0) = stair us stock := by
      have e := stair_add (us := us) hl (show (List.replicate (us.length + 1) (0 : Int)).length = us.length + 1 by simp)
      rw [stair_zeros] at e
      rw [← e]
      congr 1
      have go : ∀ (n : Nat) (o : List Int), o.length = n → zadd o (List.replicate n 0) = o := by
        intro n
        induction n with
        | zero => intro o ho; cases o with
          | nil => rfl
          | cons _ _ => simp at ho
        | succ n ih => intro o ho; cases o with
          | nil => simp at ho
          | cons x xs =>
            show (x + 0) :: zadd xs (List.replicate n 0) = _
            rw [ih xs (by simpa using ho), Int.add_zero]
      exact go _ _ hl
    rw [zz] at za
    rw [← za]
    constructor
    · intro e
      have h1 : List.replicate (us.length + 1) 0 ∈ rowsOf us Z := by rw [e]; simp
      obtain ⟨z, hz, e2⟩ := rowsOf_mem.mp h1
      have e3 : z = List.replicate (us.length + 1) 0 := by
        have := (zst z hz).stair
        rw [← e2, stair_zeros] at this
        exact this.symm
      exact ⟨z, hz, by rw [e3]; exact .refl _⟩
    · rintro ⟨z, hz, hle⟩
      have ez : z = List.replicate (us.length + 1) 0 := hle.antisymm ((zeros_le (zst z hz).len).mpr ((zst z hz).nn hu))
      subst ez
      have all : Z = [List.replicate (us.length + 1) 0] := only_zeros (fun y hy => (zeros_le (zst y hy).len).mpr ((zst y hy).nn hu)) a2 a3 hz
      rw [all]
      show sortR [row us (List.replicate (us.length + 1) 0)] = _
      rw [row_zeros]
      exact sortR_id (by unfold Asc; simp)
  · have sr := isSt_of hr hrn
    rw [stair_add hl hr, Bool.eq_iff_iff, ← any _ sr, List.any_eq_true]
    constructor
    · rintro ⟨b, hb, hw⟩
      obtain ⟨z, hz, rfl⟩ := rowsOf_mem.mp hb
      have sz := zst z hz
      rw [sz.stair] at hw
      exact ⟨z, hz, (within_iff (by rw [sr.len, sz.len])).mp hw⟩
    · rintro ⟨z, hz, hle⟩
      have sz := zst z hz
      exact ⟨row us z, rowsOf_mem.mpr ⟨z, hz, rfl⟩, by rw [sz.stair]; exact (within_iff (by rw [sr.len, sz.len])).mpr hle⟩
  · obtain ⟨z, hz, rfl⟩ := rowsOf_mem.mp hb
    rw [(zst z hz).stair]
    exact last z (kept_mem k hz)
end
end K40
end
section
set_option Elab.async false
set_option linter.all false
set_option autoImplicit false
set_option maxRecDepth 100000
set_option maxHeartbeats 4000000
/-! The law's fits and lefts. -/
namespace K40
open PySem PySem.Spec PyProof.Rows L2 LamX
theorem rows_lay : ∀ rs : List Row, PyData.canLayAll0 (rs.map rowD) = true
  | [] => rfl
  | r :: rs => by
    simp only [List.map_cons, PyData.canLayAll0, rowD_lay, rows_lay rs, Bool.and_self]
theorem rows_depth : ∀ rs : List Row, PyData.depthAll (rs.map rowD) ≤ 1
  | [] => by simp [PyData.depthAll]
  | r :: rs => by
    have h1 := rows_depth rs
    have h2 := depth_rowD r
    simp only [List.map_cons, PyData.depthAll]
    omega
theorem shaped_row (r : Row) : SeqAt.shaped (rowD r) = true := by
  have h3 := depth_rowD r
  unfold SeqAt.shaped
  rw [rowD_lay]
  simp
  omega
theorem shaped_rows (rs : List Row) : SeqAt.shaped (.list (rs.map rowD)) = true := by
  have h3 := rows_depth rs
  unfold SeqAt.shaped
  rw [PyData.canLay0, rows_lay, PyData.depth]
  simp
  omega
theorem shaped_rowsT (rs : List Row) : SeqAt.shaped (.tuple (rs.map rowD)) = true := by
  have h3 := rows_depth rs
  unfold SeqAt.shaped
  rw [PyData.canLay0, rows_lay, PyData.depth]
  simp
  omega
theorem eqv_row : ∀ (a b : Row), PyData.eqv (rowD a) (rowD b) = decide (a = b) := by
  intro a b
  show PyData.eqvAll (a.map .int) (b.map .int) = _
  induction a generalizing b with
  | nil => cases b with
    | nil => rfl
    | cons y ys => rfl
  | cons x xs ih => cases b with
    | nil => rfl
    | cons y ys =>
      have e : PyData.eqvAll ((x :: xs).map .int) ((y :: ys).map .int) = (decide (x = y) && PyData.eqvAll (xs.map .int) (ys.map .int)) := by
        simp only [List.map_cons, PyData.eqvAll]
        congr 1
      rw [e, ih ys, ← Bool.decide_and]
      simp
theorem eqv_rows (ls : List Row) (x : Row) : ((ls.map rowD).any fun z => PyData.eqv z (rowD x)) = decide (x ∈ ls) := by
  induction ls with
  | nil => rfl
  | cons y ys ih =>
    rw [List.map_cons, List.any_cons, ih, eqv_row]
    by_cases c : y = x
    · subst c
      simp
    · have c2 : ¬ x = y := fun z => c z.symm
      simp [c, c2]
/-- what the law's lefts finds -/
def leftStep (order : Row) (acc : List Row) (x : Row) : List Row := if geZ (zsub x order) = true ∧ zsub x order ∉ acc then acc ++ [zsub x order] else acc
theorem leftStep_mem {order x z : Row} {acc : List Row} : z ∈ leftStep order acc x ↔ z ∈ acc ∨ (geZ (zsub x order) = true ∧ z = zsub x order) := by
  unfold leftStep
  split
  · rename_i h
    rw [List.mem_append, List.mem_singleton]
    constructor
    · rintro (h1 | h1)
      · exact .inl h1
      · exact .inr ⟨h.1, h1⟩
    · rintro (h1 | ⟨_, h1⟩)
      · exact .inl h1
      · exact .inr h1
  · rename_i h
    constructor
    · exact .inl
    · rintro (h1 | ⟨h1, rfl⟩)
      · exact h1
      · exact Classical.byContradiction fun q => h ⟨h1, q⟩
theorem lefts_mem {order z : Row} : ∀ {rs acc : List Row}, z ∈ rs.foldl (leftStep order) acc ↔ z ∈ acc ∨ ∃ x ∈ rs, geZ (zsub x order) = true ∧ z = zsub x order
  | [], acc => by simp
  | x :: rs, acc => by
    rw [List.foldl_cons, lefts_mem, leftStep_mem]
    constructor
    · rintro ((h | h) | ⟨y, h1, h2⟩)
      · exact .inl h
      · exact .inr ⟨x, by simp, h⟩
      · exact .inr ⟨y, by simp [h1], h2⟩
    · rintro (h | ⟨y, h1, h2⟩)
      · exact .inl (.inl h)
      · rcases List.mem_cons.mp h1 with e | m
        · subst e
          exact .inl (.inr h2)
        · exact .inr ⟨y, m, h2⟩
theorem leftStep_length (order : Row) (acc : List Row) (x : Row) : (leftStep order acc x).length ≤ acc.length + 1 := by
  unfold leftStep
  split
  · simp
  · omega
def OrdOk (us : List Int) (o : Row) : Prop := o.length = us.length + 1 ∧ nn o
def spFits : Sp := fun vs H Q _ => ∃ v1 v2 v3 us o r, vs = [v1, v2, v3] ∧ TI H v1 us ∧ TI H v2 o ∧ TI H v3 r ∧ CutP us r ∧ OrdOk us o ∧ Ret H Q fun _ v => v = .bl (within (stair us o) (stair us r))
def spLefts : Sp := fun vs H Q _ => ∃ v1 v2 v3 us o r, vs = [v1, v2, v3] ∧ TI H v1 us ∧ TI H v2 r ∧ TI H v3 o ∧ CutP us r ∧ OrdOk us o ∧ Ret H Q fun H' v => ∃ rs ls, CutQ us r rs ∧ LR H' v ls ∧ ∀ z, z ∈ ls ↔ ∃ x ∈ rs, nn (zsub x o) ∧ z = zsub x o
section
variable {P : Program} {w : World} {K : PySem.W.Frag} {mg : Str → Option Value} {base : Heap}
theorem scWFits : FnScope ["_law_units_so", "_law_order", "_law_stock", "_law_row_here"] ["_law_units_so", "_law_order", "_law_stock"] (defScope sWFits) := ⟨rfl, rfl, rfl, by decide +kernel, rfl, by decide +kernel, by decide +kernel⟩
theorem ok_wFits (T : Wd K mg) : FnOk P w K mg base CX0 2 T.wFits.f T.wFits.fd ["_law_units_so", "_law_order", "_law_stock"] spFits := by
  have GWCuts := ok_wCuts (P := P) (w := w) (base := base) T
  have GWWithout : FnOk P w K mg base CX0 1 T.wWithout.f T.wWithout.fd ["_law_row_here", "_law_order"] (spZip fun x y => x - y) := ok_wWithout T
  refine T.wFits.F.ok scWFits (fun vs H Q E h => ?_) (fun cdv A outer s H vs Q E hr h => ⟨_, (pss_cons (ps_for PassesOwn.never rfl (pi_list (pe_call GWCuts (hr.mono (by first | decide | omega)) rfl T.wCuts.g T.wCuts.F.kp T.wCuts.b .nil pass0 (pa_cons (pv 0) (pa_cons (pv 2) pa_nil)))) (pg_name (i := 3) scWFits.nd rfl (.inl rfl)) (pss_one (ps_if (pt_cmpR op_ge (pe_callB (cr_minT rfl (hu_of hr)) (by rfl) T.nMin (by decide +kernel) (pa_cons (pe_call GWWithout (hr.mono (by first | decide | omega)) rfl T.wWithout.g T.wWithout.F.kp T.wWithout.b .nil pass0 (pa_cons (pv 3) (pa_cons (pv 1) pa_nil))) pa_nil)) pe_int (nomark _)) (pss_one (ps_ret pe_bl)) pss_nil)))
 (pss_one (ps_ret pe_bl))), ?_⟩)
  · obtain ⟨v1, v2, v3, us, o, r, rfl, _⟩ := h
    rfl
  obtain ⟨v1, v2, v3, us, o, r, rfl, h1, h2, h3, cp, oo, k⟩ := h
  refine ⟨_, rfl, _, rfl, v1, v3, us, r, rfl, h1, h3, cp, fun H1 v rs s1 nl cq => ?_⟩
  obtain ⟨l, vs, rfl, _, hl, hrs⟩ := nl
  have hlen := paired_length hrs
  have fe := fits_eq cp cq oo.1 oo.2
  refine ⟨l, rfl, ⟨_, SqL.of hl⟩, for_list (xs := vs) (fun i σ H' => ∃ v4, σ = [some v1, some v2, some v3, v4] ∧ Same H1 H' ∧ ((rs.take i).any fun x => geZ (zsub x o)) = false)
    ⟨none, rfl, Same.refl H1, rfl⟩ (fun i σ H' _ ⟨_, _, s2, _⟩ => SqL.of (s2 _ _ hl)) ?_ ?_⟩
  · rintro i v σ H' hv ⟨v4, rfl, s2, no⟩
    obtain ⟨x, hx, tx⟩ := hrs.nth hv
    have x1 := (cp.ok (cq.reach x (List.mem_of_getElem? hx))).1
    have o1 := oo.1
    have z2 := cp.two
    refine ⟨_, rfl, _, rfl, v, v2, x, o, rfl, tx.same s2, h2.same (s1.trans s2), by omega, fun H2 c s3 hc => ?_⟩
    obtain ⟨c, rfl, hc⟩ := hc
    obtain ⟨y, ys, ey⟩ : ∃ y ys, zsub x o = y :: ys := by
      cases x with
      | nil => simp at x1
      | cons x xs =>
        cases o with
        | nil => simp at o1
        | cons y ys => exact ⟨_, _, rfl⟩
    have hc' : H2 c = some (.tup ((y :: ys).map V.int)) := by rw [← ey]; exact hc
    refine ⟨c, y, ys, rfl, SqT.of hc', _, _, rfl, rfl, _, rfl, ?_⟩
    have g : geZ (zsub x o) = decide (0 ≤ ys.foldl min y) := by rw [ey, geZ_min]
    refine ite2 (fun c => ?_) (fun c => ?_)
    · refine k _ _ (s1.trans (s2.trans s3)) ?_
      rw [← fe]
      congr 1
      symm
      rw [List.any_eq_true]
      exact ⟨x, List.mem_of_getElem? hx, by rw [g]; exact c⟩
    · refine ⟨_, rfl, s2.trans s3, ?_⟩
      rw [take_snoc hx, List.any_append, no, List.any_cons, List.any_nil, g]
      simpa using c
  · rintro σ H' ⟨v4, rfl, s2, no⟩
    refine k _ _ (s1.trans s2) ?_
    rw [hlen, List.take_length] at no
    rw [← fe, no]
theorem scWLefts : FnScope ["_law_units_so", "_law_stock", "_law_order", "_law_found", "_law_row_here", "_law_left"] ["_law_units_so", "_law_stock", "_law_order"] (defScope sWLefts) := ⟨rfl, rfl, rfl, by decide +kernel, rfl, by decide +kernel, by decide +kernel⟩
theorem ok_wLefts (T : Wd K mg) : FnOk P w K mg base CX0 2 T.wLefts.f T.wLefts.fd ["_law_units_so", "_law_stock", "_law_order"] spLefts := by
  have GWCuts := ok_wCuts (P := P) (w := w) (base := base) T
  have GWWithout : FnOk P w K mg base CX0 1 T.wWithout.f T.wWithout.fd ["_law_row_here", "_law_order"] (spZip fun x y => x - y) := ok_wWithout T
  refine T.wLefts.F.ok scWLefts (fun vs H Q E h => ?_) (fun cdv A outer s H vs Q E hr h => ⟨_, (pss_cons (ps_set (i := 3) scWLefts.nd rfl (.inl rfl) (pe_lst pa_nil))
 (pss_cons (ps_for PassesOwn.never rfl (pi_list (pe_call GWCuts (hr.mono (by first | decide | omega)) rfl T.wCuts.g T.wCuts.F.kp T.wCuts.b .nil pass0 (pa_cons (pv 0) (pa_cons (pv 1) pa_nil)))) (pg_name (i := 4) scWLefts.nd rfl (.inl rfl)) (pss_cons (ps_set (i := 5) scWLefts.nd rfl (.inl rfl) (pe_call GWWithout (hr.mono (by first | decide | omega)) rfl T.wWithout.g T.wWithout.F.kp T.wWithout.b .nil pass0 (pa_cons (pv 4) (pa_cons (pv 2) pa_nil))))
 (pss_one (ps_if (PW.pt (pw_and (pt_cmpR op_ge (pe_callB (cr_minT rfl (hu_of hr)) (by rfl) T.nMin (by decide +kernel) (pa_cons (pv 5) pa_nil)) pe_int (nomark _)) (pw_and1 (pt_cmpR (op_notInD (hu65_of hr)) (pv 5) (pv 3) rfl)))) (pss_one (ps_expr (pe_bm PySem.F.plainAttrs_list PySem.F.slot_list_append PySem.F.type_list_append mt_append (pv 3) (pa_cons (pv 5) pa_nil)))) pss_nil))))
 (pss_one (ps_ret (pe_callB (cr_sortRows rfl (hu9_of hr)) (by rfl) T.nSorted (by decide +kernel) (pa_cons (pv 3) pa_nil)))))), ?_⟩)
  · obtain ⟨v1, v2, v3, us, o, r, rfl, _⟩ := h
    rfl
  obtain ⟨v1, v2, v3, us, o, r, rfl, h1, h2, h3, cp, oo, k⟩ := h
  refine ⟨by show 0 ≤ sizeLine; decide, fun F nF => ?_⟩
  have s0 := same_new nF (.lst [])
  refine ⟨_, rfl, _, rfl, v1, v2, us, r, rfl, h1.same s0, h2.same s0, cp, fun H1 v rs s1 nl cq => ?_⟩
  obtain ⟨l, vs, rfl, nl0, hl, hrs⟩ := nl
  have hF1 := s1 _ _ (upd_same (H := H) (a := F) (o := .lst []))
  have nlF : l ≠ F := fun z => by rw [z, upd_same] at nl0; cases nl0
  have hlen := paired_length hrs
  have few := cq.few
  refine ⟨l, rfl, ⟨_, SqL.of hl⟩, for_list (xs := vs) (fun i σ H' => ∃ v5 v6 fs, σ = [some v1, some v2, some v3, some (.ref F), v5, v6] ∧ Sb F H1 H' ∧ H' F = some (.lst fs) ∧ Rws H' fs ((rs.take i).foldl (leftStep o) []) ∧ ((rs.take i).foldl (leftStep o) []).length ≤ i)
    ⟨none, none, [], rfl, Sb.refl F H1, hF1, .nil, Nat.le_refl _⟩ (fun i σ H' _ ⟨_, _, _, _, s2, _⟩ => SqL.of (s2 _ _ nlF hl)) ?_ ?_⟩
  · rintro i v σ H' hv ⟨v5, v6, fs, rfl, s2, hF, hfs, la⟩
    obtain ⟨x, hx, tx⟩ := hrs.nth hv
    have ix := (List.getElem?_eq_some_iff.mp hx).1
    have x1 := (cp.ok (cq.reach x (List.mem_of_getElem? hx))).1
    have o1 := oo.1
    have z2 := cp.two
    have nF1 := notT hF1 fun _ z => by cases z
    have s2t := s2.tups nF1
    refine ⟨_, rfl, _, rfl, v, v3, x, o, rfl, tx.mono s2t, (h3.same (s0.trans s1)).mono s2t, by omega, fun H2 c s3 hc => ?_⟩
    obtain ⟨c, rfl, hc⟩ := hc
    obtain ⟨y, ys, ey⟩ : ∃ y ys, zsub x o = y :: ys := by
      cases x with
      | nil => simp at x1
      | cons x xs =>
        cases o with
        | nil => simp at o1
        | cons y ys => exact ⟨_, _, rfl⟩
    have hc' : H2 c = some (.tup ((y :: ys).map V.int)) := by rw [← ey]; exact hc
    have hF2 := s3 _ _ hF
    have hfs2 := hfs.same s3
    have g : geZ (zsub x o) = decide (0 ≤ ys.foldl min y) := by rw [ey, geZ_min]
    have e1 : (rs.take (i + 1)).foldl (leftStep o) [] = leftStep o ((rs.take i).foldl (leftStep o) []) x := by
      rw [take_snoc hx, List.foldl_append]
      rfl
    have l2 := leftStep_length o ((rs.take i).foldl (leftStep o) []) x
    have pl := paired_length hfs
    refine ⟨_, rfl, c, y, ys, rfl, SqT.of hc', _, _, rfl, rfl, _, rfl, ?_⟩
    refine ite2 (fun c1 => ?_) (fun c1 => ?_)
    · have g1 : geZ (zsub x o) = true := by rw [g]; exact c1
      refine ⟨_, rfl, _, rfl, rowD (zsub x o), _, TI.dp (K := K) ⟨c, rfl, hc⟩, LR.dp ⟨F, fs, rfl, hF2, hfs2⟩, shaped_row _, shaped_rows _, _, rfl, ?_⟩
      rw [eqv_rows]
      by_cases m : zsub x o ∈ (rs.take i).foldl (leftStep o) []
      · rw [decide_eq_true m]
        refine iteF ⟨_, _, fs, rfl, s2.trans (.of s3), hF2, ?_, by rw [e1]; omega⟩
        rw [e1]
        unfold leftStep
        rw [if_neg fun z => z.2 m]
        exact hfs2
      · rw [decide_eq_false m]
        refine iteT ⟨_, rfl, .inl ⟨rfl, _, SqL.of hF2⟩, _, rfl, F, fs, _, rfl, rfl, hF2, Nat.lt_of_le_of_lt (by omega : fs.length ≤ 226981) (by decide), ?_⟩
        refine ⟨_, _, _, rfl, (s2.trans (.of s3)).upd, upd_same, ?_, by rw [e1]; omega⟩
        rw [e1]
        unfold leftStep
        rw [if_pos ⟨g1, m⟩]
        have nF2 := notT hF2 fun _ z => by cases z
        exact Paired.app (hfs2.upd nF2) (.cons (TI.upd ⟨c, rfl, hc⟩ nF2) .nil)
    · refine ⟨_, _, fs, rfl, s2.trans (.of s3), hF2, ?_, by rw [e1]; omega⟩
      have g1 : ¬ geZ (zsub x o) = true := by rw [g]; exact c1
      rw [e1]
      unfold leftStep
      rw [if_neg fun z => g1 z.1]
      exact hfs2
  · rintro σ H' ⟨v5, v6, fs, rfl, s2, hF, hfs, la⟩
    rw [hlen, List.take_length] at hfs
    have nF1 := notT hF1 fun _ z => by cases z
    refine ⟨_, rfl, F, fs, _, rfl, .inl (SqL.of hF), hfs, fun z hz e => ?_, fun p ys hp hy => ?_⟩
    · obtain hz | ⟨x, hx, _, rfl⟩ := lefts_mem.mp hz
      · simp at hz
      · have x1 := (cp.ok (cq.reach x hx)).1
        have l3 := zsub_len' (us := us) x1 oo.1
        rw [e] at l3
        simp at l3
    · have sH : Same H H' := fun b u h => by
        have e : b ≠ F := ne_of_none h nF
        exact s2 b _ e (s1 _ _ (s0 _ _ h))
      refine k _ _ (same_upd sH (sH.free hp)) ⟨rs, sortR (rs.foldl (leftStep o) []), cq, ⟨p, ys, rfl, upd_same, hy.upd (notN hp)⟩, fun z => ?_⟩
      rw [sortR_mem, lefts_mem]
      constructor
      · rintro (h | ⟨x, h1, h2, h3⟩)
        · simp at h
        · exact ⟨x, h1, geZ_iff.mp h2, h3⟩
      · rintro ⟨x, h1, h2, h3⟩
        exact .inr ⟨x, h1, geZ_iff.mpr h2, h3⟩
end
end K40
end
section
set_option Elab.async false
set_option linter.all false
set_option autoImplicit false
set_option maxRecDepth 100000
/-! The law's dict of what is seen: its keys are pairs of a path and a row. -/
namespace K40
open PySem PySem.Spec PyProof.Rows L2 LamX
abbrev SKey := Row × Row
def nk (k : SKey) : NestedKey := .tup [.tup (k.1.map .num), .tup (k.2.map .num)]
theorem num_inj : ∀ {a b : List Int}, a.map NestedKey.num = b.map NestedKey.num → a = b
  | [], [], _ => rfl
  | [], _ :: _, h => by simp at h
  | _ :: _, [], h => by simp at h
  | x :: xs, y :: ys, h => by
    simp only [List.map_cons, List.cons.injEq, NestedKey.num.injEq] at h
    rw [h.1, num_inj h.2]
theorem nk_inj {k l : SKey} (h : nk k = nk l) : k = l := by
  unfold nk at h
  simp only [NestedKey.tup.injEq, List.cons.injEq, and_true] at h
  exact Prod.ext (num_inj h.1) (num_inj h.2)
theorem num_depth : ∀ a : List Int, NestedKey.depthAll (a.map .num) = 0
  | [] => rfl
  | x :: xs => by
    simp [NestedKey.depthAll, NestedKey.depth, num_depth xs]
theorem nk_depth (k : SKey) : (nk k).depth ≤ 8 := by
  unfold nk
  simp [NestedKey.depthAll, NestedKey.depth, num_depth]
def KeyAt (H : Hp) (a : Addr) (k : SKey) : Prop := ∃ b c, H a = some (.tup [.ref b, .ref c]) ∧ H b = some (.tup (k.1.map V.int)) ∧ H c = some (.tup (k.2.map V.int))
theorem KeyAt.mono {H H' : Hp} {a : Addr} {k : SKey} (h : KeyAt H a k) (e : TupsStay H H') : KeyAt H' a k := by
  obtain ⟨b, c, h1, h2, h3⟩ := h
  exact ⟨b, c, e _ _ h1, e _ _ h2, e _ _ h3⟩
theorem nested_ints {h : Heap} : ∀ {ns : List Int} {us : List Value}, Vals (ns.map V.int) us → NestedAll h (ns.map .num) us
  | [], _, .nil => .nil
  | n :: ns, _, .cons (b := u) r t => by
    obtain ⟨tk, rfl⟩ := (show ∃ t, u = Value.int n t from r)
    exact .cons (.int n tk) (nested_ints t)
section
variable {P : Program} {w : World}
theorem tup_nested {H : Hp} {h : Heap} {b : Addr} {ns : List Int} (ok : HOk P w H h) (e : H b = some (.tup (ns.map V.int))) : NestedIs h (.tup (ns.map .num)) (.ref b) := by
  obtain ⟨_, its, r, o, h1, h2, n, h3⟩ := (show ObjOk P w H h b (.tup (ns.map V.int)) from ok b _ e)
  exact .tup h1 h2 h3 (by simpa using nested_ints r)
theorem KeyAt.is {H : Hp} {h : Heap} {a : Addr} {k : SKey} (ok : HOk P w H h) (x : KeyAt H a k) : (nestedKind P w).is h (nk k) a := by
  obtain ⟨b, c, h1, h2, h3⟩ := x
  obtain ⟨_, its, r, o, e1, e2, n, e3⟩ := (show ObjOk P w H h a (.tup [.ref b, .ref c]) from ok a _ h1)
  refine ⟨?_, nk_depth k⟩
  cases r with
  | cons r1 t =>
    cases t with
    | cons r2 t =>
      cases t
      cases r1
      cases r2
      exact .tup e1 e2 e3 (.cons (tup_nested ok h2) (.cons (tup_nested ok h3) .nil))
/-- the dict's object -/
def SeenH (P : Program) (w : World) (a : Addr) (xs : List (NestedKey × Addr × Value)) : HO := .ext fun h => xs.length ≤ sizeLine ∧ (a == sysModules) = false ∧
  ∃ o es ep, h.get? a = some o ∧ o.ExactDict ∧ o.data = .dict es ep ∧ es.toList = xs.map (entryOfKey (nestedKind P w)) ∧ (xs.map (·.1)).Nodup
def KN (H : Hp) : List (SKey × V) → List (NestedKey × Addr × Value) → Prop := Paired fun (p : SKey × V) (q : NestedKey × Addr × Value) => q.1 = nk p.1 ∧ KeyAt H q.2.1 p.1 ∧ RelV p.2 q.2.2
def SeenAt (P : Program) (w : World) (H : Hp) (D : Addr) (m : List (SKey × V)) : Prop := ∃ xs, (H D = some (SeenH P w D xs) ∨ (xs = [] ∧ H D = some (.dT []))) ∧ KN H m xs
theorem KN.mono {H H' : Hp} {m : List (SKey × V)} {xs : List (NestedKey × Addr × Value)} (h : KN H m xs) (e : TupsStay H H') : KN H' m xs := Paired.mapP h fun _ _ z => ⟨z.1, z.2.1.mono e, z.2.2⟩
theorem SeenAt.mono {H H' : Hp} {D : Addr} {m : List (SKey × V)} (h : SeenAt P w H D m) (e : TupsStay H H') (d : H' D = H D) : SeenAt P w H' D m := by
  obtain ⟨xs, h1, h2⟩ := h
  exact ⟨xs, by rw [d]; exact h1, h2.mono e⟩
theorem SeenAt.there {H : Hp} {D : Addr} {m : List (SKey × V)} (h : SeenAt P w H D m) : ∃ o, H D = some o := by
  obtain ⟨xs, h1 | ⟨_, h1⟩, h2⟩ := h
  · exact ⟨_, h1⟩
  · exact ⟨_, h1⟩
theorem SeenAt.same {H H' : Hp} {D : Addr} {m : List (SKey × V)} (h : SeenAt P w H D m) (e : Same H H') : SeenAt P w H' D m := by
  obtain ⟨o, ho⟩ := h.there
  exact h.mono (.of e) (by rw [ho, e _ _ ho])
theorem SeenAt.notTup {H : Hp} {D : Addr} {m : List (SKey × V)} (h : SeenAt P w H D m) : ∀ xs, H D ≠ some (.tup xs) := fun ys z => by
  obtain ⟨xs, h1 | ⟨_, h1⟩, h2⟩ := h
  · rw [h1] at z
    unfold SeenH at z
    cases z
  · rw [h1] at z
    cases z
theorem SeenAt.nil {H : Hp} {D : Addr} (h : H D = some (.dT [])) : SeenAt P w H D [] := ⟨[], .inr ⟨rfl, h⟩, .nil⟩
theorem SeenAt.dict {H : Hp} {h : Heap} {D : Addr} {m : List (SKey × V)} (ok : HOk P w H h) (x : SeenAt P w H D m) : Mut (H D) ∧ (D == sysModules) = false ∧ ∃ xs, KN H m xs ∧ h.DictOfH (nestedKind P w) D xs ∧ xs.length ≤ sizeLine := by
  obtain ⟨xs, h1 | ⟨rfl, h1⟩, h2⟩ := x
  · obtain ⟨⟨z, y, o, es, ep, e1, e2, e3, e4, e5⟩, _⟩ := (show ObjOk P w H h D (SeenH P w D xs) from ok D _ h1)
    refine ⟨by rw [h1]; trivial, y, xs, h2, ⟨o, es, ep, e1, e2, e3, e4, ?_, e5⟩, z⟩
    have all : ∀ {l : List (SKey × V)} {q : List (NestedKey × Addr × Value)}, KN H l q → ∀ x ∈ q, (nestedKind P w).is h x.1 x.2.1 := by
      intro l q r
      induction r with
      | nil => intro x hx; exact nomatch hx
      | @cons p q ps qs hq t ih =>
        intro x hx
        rcases List.mem_cons.mp hx with e | hx
        · subst e
          rw [hq.1]
          exact hq.2.1.is ok
        · exact ih x hx
    exact all h2
  · obtain ⟨z, y, xs, r, o, es, ep, e1, e2, e3, e4, e5⟩ := (show ObjOk P w H h D (.dT []) from ok D _ h1)
    cases r
    exact ⟨by rw [h1]; trivial, y, [], h2, ⟨o, es, ep, e1, e2, e3, e4, (fun x hx => absurd hx (by simp)), List.nodup_nil⟩, Nat.zero_le _⟩
theorem KN.val {H : Hp} {m : List (SKey × V)} {xs : List (NestedKey × Addr × Value)} (r : KN H m xs) (k : SKey) : RelO (valV m k) ((atKey xs (nk k)).map (·.2)) := by
  induction r with
  | nil => exact True.intro
  | @cons p q ps qs h t ih =>
    obtain ⟨h1, _, h2⟩ := h
    by_cases e : p.1 = k
    · have e' : q.1 = nk k := by rw [h1, e]
      have b : atKey (q :: qs) (nk k) = some q.2 := by simp [atKey, List.find?_cons, e']
      rw [valV_pos e, b]
      exact h2
    · have e' : ¬ q.1 = nk k := fun z => e (nk_inj (h1.symm.trans z))
      have b : atKey (q :: qs) (nk k) = atKey qs (nk k) := by simp [atKey, List.find?_cons, e']
      rw [valV_neg e, b]
      exact ih
theorem KN.repl {H : Hp} {m : List (SKey × V)} {xs : List (NestedKey × Addr × Value)} (r : KN H m xs) (k : SKey) {y : V} {u : Value} (ry : RelV y u) :
    KN H (m.map fun kv => if kv.1 = k then (kv.1, y) else kv) (xs.map (putAt (nk k) u)) := by
  induction r with
  | nil => exact .nil
  | @cons p q ps qs h t ih =>
    obtain ⟨h1, h3, h2⟩ := h
    rw [List.map_cons, List.map_cons]
    refine .cons ?_ ih
    unfold putAt
    by_cases e : p.1 = k
    · have e' : q.1 = nk k := by rw [h1, e]
      rw [if_pos e, if_pos e']
      exact ⟨h1, h3, ry⟩
    · have e' : ¬ q.1 = nk k := fun z => e (nk_inj (h1.symm.trans z))
      rw [if_neg e, if_neg e']
      exact ⟨h1, h3, h2⟩
theorem KN.put {H : Hp} {m : List (SKey × V)} {xs : List (NestedKey × Addr × Value)} (r : KN H m xs) (k : SKey) {b : Addr} {y : V} {u : Value} (hb : KeyAt H b k) (ry : RelV y u) :
    KN H (putK m k y) (storedH xs (nk k) b u) := by
  have e : (m.any fun kv => decide (kv.1 = k)) = (atKey xs (nk k)).isSome := by
    rw [valV_any, (r.val k).isSome_eq, Option.isSome_map]
  unfold putK storedH
  rw [e]
  by_cases q : (atKey xs (nk k)).isSome = true
  · rw [if_pos q, if_pos q]
    exact r.repl k ry
  · rw [if_neg q, if_neg q]
    exact Paired.snoc r ⟨rfl, hb, ry⟩
end
section
variable {X : Cx}
theorem room8 {A : Around} (hu : A.units + 9 < cLine) : (nestedKind X.prog X.w).room A.in1 := by
  show A.in1.units + 8 < cLine
  have : A.in1.units = A.units + 1 := rfl
  omega
/-- key in seen -/
def rInSeen (P : Program) (w : World) : R2 := fun x y H Q => ∃ a D k m, x = .ref a ∧ y = .ref D ∧ KeyAt H a k ∧ SeenAt P w H D m ∧ Q (.bl (valV m k).isSome) H
theorem op_inSeen (hu : X.A.units + 9 < cLine) : OpR X (compareOp .In) (rInSeen X.prog X.w) := by
  intro pins s σ H x y v u Q I rx ry h
  obtain ⟨a, D, k, m, rfl, rfl, ka, sa, q⟩ := h
  cases rx
  cases ry
  obtain ⟨_, hd, xs, rel, dd, _⟩ := sa.dict I.hok
  refine wpAny_in_heap (room8 hu) (ka.is I.hok) hd dd ?_
  have e := (rel.val k).isSome_eq
  rw [Option.isSome_map] at e
  rw [← e]
  exact ⟨.bl _, H, I.tok _, rfl, q⟩
/-- seen[key] -/
def rIxSeen (P : Program) (w : World) : R2 := fun x y H Q => ∃ D a k m v, x = .ref D ∧ y = .ref a ∧ KeyAt H a k ∧ SeenAt P w H D m ∧ valV m k = some v ∧ Q v H
theorem pe_seenGet {o i : Expr} {pos : Pos} {td ty : TE} (hu : X.A.units + 9 < cLine) (ho : PE X o td) (hi : PE X i ty) (hs : NoSl i) : PE X (.Subscript o i pos) (tOp (rIxSeen X.prog X.w) td ty) := by
  refine ⟨fun pins s σ H Q I h => ?_⟩
  refine subD_of PySem.F.slot_dict_getitem.lookup hs (thn (ho.run pins s σ H _ I h) fun u s1 ⟨x, H1, I1, rx, q1⟩ => thn (hi.run pins s1 σ H1 _ I1 q1) fun iv s2 ⟨y, H2, I2, ry, q2⟩ => ?_)
  obtain ⟨D, a, k, m, z, rfl, rfl, ka, sa, hv, q⟩ := q2
  cases rx
  cases ry
  obtain ⟨_, hd, xs, rel, dd, _⟩ := sa.dict I2.hok
  obtain ⟨w', hw, rw'⟩ := RelO.some_of (v := z) (o := (atKey xs (nk k)).map (·.2)) (by rw [← hv]; exact rel.val k)
  obtain ⟨p, hp, hp2⟩ := Option.map_eq_some_iff.mp hw
  refine ⟨dd.typeIs, wpAny_getItem_heap (room8 hu) (ka.is I2.hok) dd hp ?_⟩
  rw [hp2]
  exact ⟨z, H2, I2.tok _, rw', q⟩
/-- seen[key] = v -/
def rSetSeen (P : Program) (w : World) : V → V → V → Hp → (Hp → Prop) → Prop := fun o i v H Q => ∃ D a k m, o = .ref D ∧ i = .ref a ∧ KeyAt H a k ∧ SeenAt P w H D m ∧ m.length < sizeLine ∧
  ∀ H', (∀ b, b ≠ D → H' b = H b) → SeenAt P w H' D (putK m k v) → Q H'
theorem set_seen (hu : X.A.units + 9 < cLine) : PSet X (rSetSeen X.prog X.w) := by
  intro pins s σ H o i v ov iv u Q I ro ri rv h
  obtain ⟨D, a, k, m, rfl, rfl, ka, sa, hl, q⟩ := h
  cases ro
  cases ri
  obtain ⟨mu, hd, xs, rel, dd, hz⟩ := sa.dict I.hok
  have lx := Paired.length rel
  have rel2 := rel.put k ka rv
  refine wpAny_setItem_heap (hsz := hz) (room8 hu) (ka.is I.hok) dd fun h' dd' hs => ?_
  obtain ⟨ob, es, ep, hq, h2, h3, h4, _, h5⟩ := dd'
  have hl2 : (storedH xs (nk k) a u).length ≤ sizeLine := by
    have := Paired.length rel2
    have := length_putK m k v
    omega
  have new : ObjOk X.prog X.w (upd H D (SeenH X.prog X.w D (storedH xs (nk k) a u))) h' D (SeenH X.prog X.w D (storedH xs (nk k) a u)) := by
    refine ⟨⟨hl2, hd, ob, es, ep, hq, h2, h3, h4, h5⟩, ⟨ob, hq⟩, ?_⟩
    rintro h1 h2 ⟨a1, a2, o, es, ep, b1, b2⟩ kk
    exact ⟨a1, a2, o, es, ep, kk _ b1, b2⟩
  refine ⟨_, d_write I mu hs ⟨ob, hq⟩ new, ?_⟩
  have nt := sa.notTup
  refine q _ (fun b hb => upd_ne hb) ⟨_, .inl upd_same, rel2.mono fun b ys e => ?_⟩
  exact (upd_ne (fun z => nt ys (by rw [← z]; exact e))).trans e
end
end K40
end
section
set_option Elab.async false
set_option linter.all false
set_option autoImplicit false
set_option maxRecDepth 100000
/-! Mathematics: paths, keys, what is seen. -/
namespace K40
open PySem PySem.Spec PyProof.Rows L2 LamX
def child : Plan → Int → Option Plan
  | .ask _ p, i => if i = 2 then some p else none
  | .bring _ p, i => if i = 2 then some p else none
  | .either a b, i => if i = 1 then some a else if i = 2 then some b else none
  | .ours a b, i => if i = 1 then some a else if i = 2 then some b else none
  | .fin, _ => none
def sub : Plan → List Int → Option Plan
  | p, [] => some p
  | p, i :: r => (child p i).bind fun q => sub q r
theorem sub_snoc : ∀ (path : List Int) (p q : Plan) (i : Int), sub p path = some q → sub p (path ++ [i]) = child q i
  | [], p, q, i, h => by
    cases h
    show (child p i).bind (fun q => sub q []) = child p i
    cases child p i <;> rfl
  | j :: r, p, q, i, h => by
    show (child p j).bind (fun q => sub q (r ++ [i])) = child q i
    have h : (child p j).bind (fun q => sub q r) = some q := h
    cases e : child p j with
    | none => rw [e] at h; cases h
    | some z =>
      rw [e] at h
      exact sub_snoc r z q i h
theorem child_facts {p q : Plan} {i : Int} (h : child p i = some q) : (i = 1 ∨ i = 2) ∧ q.depth + 1 ≤ p.depth := by
  cases p with
  | fin => cases h
  | ask r z =>
    simp only [child] at h
    split at h
    · rename_i e
      cases h
      exact ⟨.inr e, Nat.le_refl _⟩
    · cases h
  | bring r z =>
    simp only [child] at h
    split at h
    · rename_i e
      cases h
      exact ⟨.inr e, Nat.le_refl _⟩
    · cases h
  | either a b =>
    have d : (Plan.either a b).depth = max a.depth b.depth + 1 := rfl
    simp only [child] at h
    split at h
    · rename_i e
      cases h
      exact ⟨.inl e, by omega⟩
    · split at h
      · rename_i e
        cases h
        exact ⟨.inr e, by omega⟩
      · cases h
  | ours a b =>
    have d : (Plan.ours a b).depth = max a.depth b.depth + 1 := rfl
    simp only [child] at h
    split at h
    · rename_i e
      cases h
      exact ⟨.inl e, by omega⟩
    · split at h
      · rename_i e
        cases h
        exact ⟨.inr e, by omega⟩
      · cases h
theorem sub_facts : ∀ (path : List Int) (p q : Plan), sub p path = some q → (∀ i ∈ path, i = 1 ∨ i = 2) ∧ path.length + q.depth ≤ p.depth
  | [], p, q, h => by
    cases h
    exact ⟨by simp, by simp⟩
  | j :: r, p, q, h => by
    have h : (child p j).bind (fun q => sub q r) = some q := h
    cases e : child p j with
    | none => rw [e] at h; cases h
    | some z =>
      rw [e] at h
      obtain ⟨h1, h2⟩ := sub_facts r z q h
      obtain ⟨h3, h4⟩ := child_facts e
      refine ⟨fun i m => ?_, by rw [List.length_cons]; omega⟩
      rcases List.mem_cons.mp m with e2 | m
      · rw [e2]
        exact h3
      · exact h1 i m
/-- the number of a path -/
def pc : List Int → Nat
  | [] => 1
  | x :: xs => 2 * pc xs + (x - 1).toNat
theorem pc_pos : ∀ l : List Int, 1 ≤ pc l
  | [] => Nat.le_refl _
  | x :: xs => by
    have := pc_pos xs
    show 1 ≤ 2 * pc xs + _
    omega
theorem pc_lt : ∀ l : List Int, (∀ i ∈ l, i = 1 ∨ i = 2) → pc l < 2 ^ (l.length + 1)
  | [], _ => by decide
  | x :: xs, h => by
    have ih := pc_lt xs fun i m => h i (List.mem_cons_of_mem _ m)
    have hx := h x (by simp)
    show 2 * pc xs + (x - 1).toNat < 2 ^ (xs.length + 1 + 1)
    rw [Nat.pow_succ]
    omega
theorem pc_inj : ∀ a b : List Int, (∀ i ∈ a, i = 1 ∨ i = 2) → (∀ i ∈ b, i = 1 ∨ i = 2) → pc a = pc b → a = b
  | [], [], _, _, _ => rfl
  | [], y :: ys, _, _, h => by
    have := pc_pos ys
    have h : 1 = 2 * pc ys + (y - 1).toNat := h
    omega
  | x :: xs, [], _, _, h => by
    have := pc_pos xs
    have h : 2 * pc xs + (x - 1).toNat = 1 := h
    omega
  | x :: xs, y :: ys, ha, hb, h => by
    have h : 2 * pc xs + (x - 1).toNat = 2 * pc ys + (y - 1).toNat := h
    have hx := ha x (by simp)
    have hy := hb y (by simp)
    have e1 : x = y := by omega
    have e2 : pc xs = pc ys := by omega
    rw [e1, pc_inj xs ys (fun i m => ha i (List.mem_cons_of_mem _ m)) (fun i m => hb i (List.mem_cons_of_mem _ m)) e2]
/-- a row that the law may hold -/
def HeldR (us : List Int) (r : Row) : Prop := r.length = us.length + 1 ∧ (∀ y ∈ r, 0 ≤ y) ∧ dot r (sizesM us) ≤ 60
theorem HeldR.cut {us : List Int} {r : Row} (h : HeldR us r) (uo : UOk us) (two : us.length ≤ 2) : CutP us r := ⟨uo, two, h.1, h.2.1, h.2.2⟩
theorem HeldR.low {us : List Int} {r : Row} (h : HeldR us r) (uo : UOk us) : ∀ y ∈ r, 0 ≤ y ∧ y ≤ 60 := fun y hy => by
  have q := dot_ge r (sizesM us) h.2.1 (fun z hz => (uo.sizes hz).1) (by rw [h.1, sizesM_length]; exact Nat.le_refl _)
  have := q.2 y hy
  have := h.2.2
  exact ⟨h.2.1 y hy, by omega⟩
/-- what is seen is right -/
structure SeenOk (us : List Int) (p0 : Plan) (m : List (SKey × V)) : Prop where
  nodup : (m.map (·.1)).Nodup
  all : ∀ x ∈ m, HeldR us x.1.2 ∧ ∃ p, sub p0 x.1.1 = some p ∧ x.2 = .bl (livesS us p (stair us x.1.2))
theorem SeenOk.nil {us : List Int} {p0 : Plan} : SeenOk us p0 [] := ⟨by simp, by simp⟩
theorem valV_mem {m : List (SKey × V)} {k : SKey} {v : V} (h : valV m k = some v) : (k, v) ∈ m := by
  unfold valV at h
  obtain ⟨x, h1, h2⟩ := Option.map_eq_some_iff.mp h
  have h3 := List.find?_some h1
  have h4 := List.mem_of_find?_eq_some h1
  have e : x.1 = k := of_decide_eq_true h3
  rw [← e, ← h2]
  exact h4
theorem putK_mem {m : List (SKey × V)} {k : SKey} {v : V} {x : SKey × V} (h : x ∈ putK m k v) : x ∈ m ∨ x = (k, v) := by
  unfold putK at h
  split at h
  · obtain ⟨y, hy, rfl⟩ := List.mem_map.mp h
    by_cases e : y.1 = k
    · rw [if_pos e]
      exact .inr (by rw [e])
    · rw [if_neg e]
      exact .inl hy
  · rcases List.mem_append.mp h with h | h
    · exact .inl h
    · simp at h
      exact .inr h
theorem putK_nodup {m : List (SKey × V)} {k : SKey} {v : V} (h : (m.map (·.1)).Nodup) : ((putK m k v).map (·.1)).Nodup := by
  unfold putK
  split
  · have e : (m.map fun kv => if kv.1 = k then (kv.1, v) else kv).map (·.1) = m.map (·.1) := by
      rw [List.map_map]
      refine List.map_congr_left fun x _ => ?_
      by_cases c : x.1 = k
      · simp [c]
      · simp [c]
    rw [e]
    exact h
  · rename_i c
    rw [List.map_append, List.nodup_append]
    refine ⟨h, by simp, fun a ha b hb e => ?_⟩
    simp at hb
    subst e
    subst hb
    obtain ⟨y, hy, e⟩ := List.mem_map.mp ha
    apply c
    rw [List.any_eq_true]
    exact ⟨y, hy, by simpa using e⟩
theorem SeenOk.put {us : List Int} {p0 p : Plan} {m : List (SKey × V)} {k : SKey} (s : SeenOk us p0 m) (h1 : HeldR us k.2) (h2 : sub p0 k.1 = some p) : SeenOk us p0 (putK m k (.bl (livesS us p (stair us k.2)))) := by
  refine ⟨putK_nodup s.nodup, fun x hx => ?_⟩
  rcases putK_mem hx with h | rfl
  · exact s.all x h
  · exact ⟨h1, p, h2, rfl⟩
theorem SeenOk.get {us : List Int} {p0 p : Plan} {m : List (SKey × V)} {k : SKey} {v : V} (s : SeenOk us p0 m) (h : valV m k = some v) (h2 : sub p0 k.1 = some p) : v = .bl (livesS us p (stair us k.2)) := by
  obtain ⟨_, q, h3, h4⟩ := s.all _ (valV_mem h)
  have h3 : sub p0 k.1 = some q := h3
  rw [h2] at h3
  cases h3
  exact h4
/-- the number of a key -/
def kc (k : SKey) : Nat := pc k.1 * 226981 + code 60 k.2
theorem SeenOk.few {us : List Int} {p0 : Plan} {m : List (SKey × V)} (s : SeenOk us p0 m) (uo : UOk us) (two : us.length ≤ 2) (hd : p0.depth ≤ 6) : m.length < sizeLine := by
  have cl : ∀ k : SKey, HeldR us k.2 → code 60 k.2 < 226981 := fun k h => by
    have h1 := code_lt 60 k.2 fun y hy => h.low uo y hy
    have e : (60 + 1) ^ k.2.length ≤ 226981 := by
      have : ∀ j : Nat, j ≤ 2 → (60 + 1) ^ (j + 1) ≤ 226981 := by decide
      rw [h.1]
      exact this _ two
    omega
  have pl : ∀ x ∈ m, pc x.1.1 < 64 := fun x hx => by
    obtain ⟨_, p, h1, _⟩ := s.all x hx
    obtain ⟨h2, h3⟩ := sub_facts _ _ _ h1
    have := p.depth_pos
    have h4 := pc_lt _ h2
    have h5 : 2 ^ (x.1.1.length + 1) ≤ 2 ^ 6 := Nat.pow_le_pow_right (by decide) (by omega)
    have : (2 : Nat) ^ 6 = 64 := by decide
    omega
  have n : (m.map fun x => kc x.1).Nodup := by
    have e : (m.map fun x => kc x.1) = (m.map (·.1)).map kc := by rw [List.map_map]; rfl
    rw [e]
    have nd := s.nodup
    rw [List.Nodup, List.pairwise_map] at nd ⊢
    rw [List.pairwise_map]
    refine nd.imp_of_mem fun {a b} ha hb h e => h ?_
    obtain ⟨a1, p, a2, _⟩ := s.all a ha
    obtain ⟨b1, q, b2, _⟩ := s.all b hb
    have ca := cl a.1 a1
    have cb := cl b.1 b1
    unfold kc at e
    have e1 : pc a.1.1 = pc b.1.1 := by omega
    have e2 : code 60 a.1.2 = code 60 b.1.2 := by omega
    exact Prod.ext (pc_inj _ _ (sub_facts _ _ _ a2).1 (sub_facts _ _ _ b2).1 e1) (code_inj 60 _ _ (by rw [a1.1, b1.1]) (fun y hy => a1.low uo y hy) (fun y hy => b1.low uo y hy) e2)
  obtain ⟨M, hM⟩ : ∃ M : Nat, M = 64 * 226981 := ⟨_, rfl⟩
  have small : ∀ z ∈ m.map (fun x => kc x.1), z < M := fun z hz => by
    obtain ⟨x, hx, e⟩ := List.mem_map.mp hz
    have h1 := pl x hx
    have h2 := cl x.1 (s.all x hx).1
    rw [← e]
    unfold kc
    omega
  have e := sizeLine_eq
  have l := nodup_lt M _ n small
  rw [List.length_map] at l
  omega
/-- the plan that live reads: brings are small -/
def LiveOk (us : List Int) : Nat → Plan → Prop
  | _, .fin => True
  | d + 1, .ask r p => OrdOk us r ∧ LiveOk us d p
  | d + 1, .bring r p => RowOk us 4 r ∧ LiveOk us d p
  | d + 1, .either a b => LiveOk us d a ∧ LiveOk us d b
  | d + 1, .ours a b => LiveOk us d a ∧ LiveOk us d b
  | 0, _ => False
theorem LiveOk.of {us : List Int} : ∀ {d : Nat} {p : Plan}, Drawn us d p → LiveOk us d p
  | _, .fin, _ => by unfold LiveOk; trivial
  | d + 1, .ask r p, h => ⟨⟨h.1.1, h.1.2.1⟩, LiveOk.of h.2⟩
  | d + 1, .bring r p, h => ⟨h.1, LiveOk.of h.2⟩
  | d + 1, .either a b, h => ⟨LiveOk.of h.1, LiveOk.of h.2⟩
  | d + 1, .ours a b, h => ⟨LiveOk.of h.1, LiveOk.of h.2⟩
  | 0, .ask _ _, h => h.elim
  | 0, .bring _ _, h => h.elim
  | 0, .either _ _, h => h.elim
  | 0, .ours _ _, h => h.elim
theorem dot_add : ∀ (a b s : List Int), a.length = b.length → dot (zadd a b) s = dot a s + dot b s
  | [], [], s, _ => by simp [zadd, dot]
  | x :: xs, y :: ys, [], _ => by simp [zadd, dot]
  | x :: xs, y :: ys, z :: zs, h => by
    have ih := dot_add xs ys zs (by simpa using h)
    unfold zadd at ih ⊢
    simp only [List.zipWith_cons_cons, dot, ih, Int.add_mul]
    omega
theorem dot_sub_le : ∀ (a b s : List Int), a.length = b.length → (∀ y ∈ b, 0 ≤ y) → (∀ z ∈ s, 0 ≤ z) → dot (zsub a b) s ≤ dot a s
  | [], [], s, _, _, _ => by simp [zsub, dot]
  | x :: xs, y :: ys, [], _, _, _ => by simp [zsub, dot]
  | x :: xs, y :: ys, z :: zs, h, hb, hs => by
    have ih := dot_sub_le xs ys zs (by simpa using h) (fun y hy => hb y (List.mem_cons_of_mem _ hy)) (fun y hy => hs y (List.mem_cons_of_mem _ hy))
    have h1 : 0 ≤ y * z := Int.mul_nonneg (hb y (by simp)) (hs z (by simp))
    unfold zsub at ih ⊢
    simp only [List.zipWith_cons_cons, dot, Int.sub_mul]
    omega
end K40
end
section
set_option Elab.async false
set_option linter.all false
set_option autoImplicit false
set_option maxRecDepth 100000
set_option maxHeartbeats 4000000
/-! The law's live. -/
namespace K40
open PySem PySem.Spec PyProof.Rows L2 LamX
structure LiveP (P : Program) (w : World) (d : Nat) (H : Hp) (v1 v2 v3 v4 : V) (D : Addr) (us : List Int) (p0 p : Plan) (path : List Int) (stock : Row) (m : List (SKey × V)) (n : Int) : Prop where
  u : TI H v1 us
  pl : Plan.At H p v2
  pa : TI H v3 path
  st : TI H v4 stock
  sa : SeenAt P w H D m
  so : SeenOk us p0 m
  uo : UOk us
  two : us.length ≤ 2
  hd : p0.depth ≤ 6
  sb : sub p0 path = some p
  lo : LiveOk us d p
  ok : p.Ok (us.length + 1) n
  ln : stock.length = us.length + 1
  nn : ∀ y ∈ stock, 0 ≤ y
  val : dot stock (sizesM us) + 4 * (d : Int) ≤ 60
def spLive (P : Program) (w : World) (d : Nat) : Sp := fun vs H Q _ => ∃ v1 v2 v3 v4 D us p0 p path stock m n, vs = [v1, v2, v3, v4, .ref D] ∧ LiveP P w d H v1 v2 v3 v4 D us p0 p path stock m n ∧
  ∀ H' m', Sb D H H' → SeenAt P w H' D m' → SeenOk us p0 m' → Q (.bl (livesS us p (stair us stock))) H'
theorem SeenAt.new {P : Program} {w : World} {H H' : Hp} {D : Addr} {m : List (SKey × V)} (h : SeenAt P w H D m) (e : Same H H') : SeenAt P w H' D m := h.same e
theorem LiveP.held {P : Program} {w : World} {d : Nat} {H : Hp} {v1 v2 v3 v4 : V} {D : Addr} {us : List Int} {p0 p : Plan} {path : List Int} {stock : Row} {m : List (SKey × V)} {n : Int} (h : LiveP P w d H v1 v2 v3 v4 D us p0 p path stock m n) : HeldR us stock := ⟨h.ln, h.nn, by have := h.val; omega⟩
theorem Sb.keepD {D : Addr} {H H1 H2 : Hp} (a : Sb D H H1) (b : ∀ c, c ≠ D → H2 c = H1 c) : Sb D H H2 := fun c o n h => by
  rw [b c n]
  exact a c o n h
theorem SeenAt.neL {P : Program} {w : World} {H : Hp} {D l : Addr} {m : List (SKey × V)} {xs : List V} (h : SeenAt P w H D m) (e : H l = some (.lst xs)) : l ≠ D := fun z => by
  subst z
  obtain ⟨ys, h1 | ⟨_, h1⟩, h2⟩ := h
  · rw [h1] at e
    unfold SeenH at e
    cases e
  · rw [h1] at e
    cases e
theorem path_snoc {H : Hp} {p : Addr} {path : List Int} {i : Int} (h : H p = some (.tup (path.map V.int ++ [.int i]))) : TI H (.ref p) (path ++ [i]) := ⟨p, rfl, by rw [h, List.map_append]; rfl⟩
section
variable {P : Program} {w : World} {K : PySem.W.Frag} {mg : Str → Option Value} {base : Heap}
theorem scWLive : FnScope ["_law_units_so", "_law_plan_so", "_law_path_so", "_law_stock", "_law_seen", "_law_key", "_law_word", "_law_answer", "_law_left", "_law_one", "_law_other"] ["_law_units_so", "_law_plan_so", "_law_path_so", "_law_stock", "_law_seen"] (defScope sWLive) := ⟨rfl, rfl, rfl, by decide +kernel, rfl, by decide +kernel, by decide +kernel⟩
theorem ok_wLive (T : Wd K mg) : ∀ d : Nat, FnOk P w K mg base CX0 (3 + d) T.wLive.f T.wLive.fd ["_law_units_so", "_law_plan_so", "_law_path_so", "_law_stock", "_law_seen"] (spLive P w d) := by
  have GWBeside : FnOk P w K mg base CX0 1 T.wBeside.f T.wBeside.fd ["_law_one", "_law_other"] (spZip fun x y => x + y) := ok_wBeside T
  have GWLefts := ok_wLefts (P := P) (w := w) (base := base) T
  intro d
  induction d with
  | zero =>
    have GWLive : FnOk P w K mg base CX0 2 T.wLive.f T.wLive.fd ["_law_units_so", "_law_plan_so", "_law_path_so", "_law_stock", "_law_seen"] (fun _ _ _ _ => False) := fnOk_none fun _ _ _ _ z => z
    refine T.wLive.F.ok (k := 2) scWLive (fun vs H Q E h => ?_) (fun cdv A outer s H vs Q E hr h => ⟨_, (pss_cons (ps_set (i := 5) scWLive.nd rfl (.inl rfl) (pe_tup (pa_cons (pv 2) (pa_cons (pv 3) pa_nil))))
 (pss_cons (ps_if (pt_cmpR (op_inSeen (hu9_of hr)) (pv 5) (pv 4) rfl) (pss_one (ps_ret (pe_seenGet (hu9_of hr) (pv 4) (pv 5) (fun _ _ => rfl)))) pss_nil)
 (pss_cons (ps_par (i := 6) (j := 7) rfl scWLive.nd rfl rfl (by decide) rfl rfl (pa_cons (pe_ix ix_tup (pv 1) pe_int (fun _ _ => rfl)) (pa_cons pe_bl pa_nil)) rfl)
 (pss_cons (ps_if (pt_cmpR op_eq (pv 6) pe_str (nomark _)) (pss_one (ps_set (i := 7) scWLive.nd rfl (.inl rfl) (pe_call GWLive (hr.mono (by first | decide | omega)) rfl T.wLive.g T.wLive.F.kp T.wLive.b .nil pass0 (pa_cons (pv 0) (pa_cons (pe_ix ix_tup (pv 1) pe_int (fun _ _ => rfl)) (pa_cons (pe_op op_catU (pv 2) (pe_tup (pa_cons pe_int pa_nil))) (pa_cons (pe_call GWBeside (hr.mono (by first | decide | omega)) rfl T.wBeside.g T.wBeside.F.kp T.wBeside.b .nil pass0 (pa_cons (pv 3) (pa_cons (pe_ix ix_tup (pv 1) pe_int (fun _ _ => rfl)) pa_nil))) (pa_cons (pv 4) pa_nil)))))))) (pss_one (ps_if (pt_cmpR op_eq (pv 6) pe_str (nomark _)) (pss_cons (ps_set (i := 7) scWLive.nd rfl (.inl rfl) pe_bl)
 (pss_one (ps_for PassesOwn.never rfl (pi_list (pe_call GWLefts (hr.mono (by first | decide | omega)) rfl T.wLefts.g T.wLefts.F.kp T.wLefts.b .nil pass0 (pa_cons (pv 0) (pa_cons (pv 3) (pa_cons (pe_ix ix_tup (pv 1) pe_int (fun _ _ => rfl)) pa_nil))))) (pg_name (i := 8) scWLive.nd rfl (.inl rfl)) (pss_one (ps_set (i := 7) scWLive.nd rfl (.inl rfl) (pe_or (pv 7) (pe_one (pe_call GWLive (hr.mono (by first | decide | omega)) rfl T.wLive.g T.wLive.F.kp T.wLive.b .nil pass0 (pa_cons (pv 0) (pa_cons (pe_ix ix_tup (pv 1) pe_int (fun _ _ => rfl)) (pa_cons (pe_op op_catU (pv 2) (pe_tup (pa_cons pe_int pa_nil))) (pa_cons (pv 8) (pa_cons (pv 4) pa_nil))))))))))))) (pss_one (ps_if (pt_cmpR op_ne (pv 6) pe_str (nomark _)) (pss_cons (ps_set (i := 9) scWLive.nd rfl (.inl rfl) (pe_call GWLive (hr.mono (by first | decide | omega)) rfl T.wLive.g T.wLive.F.kp T.wLive.b .nil pass0 (pa_cons (pv 0) (pa_cons (pe_ix ix_tup (pv 1) pe_int (fun _ _ => rfl)) (pa_cons (pe_op op_catU (pv 2) (pe_tup (pa_cons pe_int pa_nil))) (pa_cons (pv 3) (pa_cons (pv 4) pa_nil)))))))
 (pss_cons (ps_set (i := 10) scWLive.nd rfl (.inl rfl) (pe_call GWLive (hr.mono (by first | decide | omega)) rfl T.wLive.g T.wLive.F.kp T.wLive.b .nil pass0 (pa_cons (pv 0) (pa_cons (pe_ix ix_tup (pv 1) pe_int (fun _ _ => rfl)) (pa_cons (pe_op op_catU (pv 2) (pe_tup (pa_cons pe_int pa_nil))) (pa_cons (pv 3) (pa_cons (pv 4) pa_nil)))))))
 (pss_one (ps_set (i := 7) scWLive.nd rfl (.inl rfl) (pe_ifExp (pt_cmpR op_eq (pv 6) pe_str (nomark _)) (pe_and (pv 9) (pe_one (pv 10))) (pe_or (pv 9) (pe_one (pv 10)))))))) pss_nil)))))
 (pss_cons (ps_asg (pv 7) (pg_sub (pv 4) (pv 5) (set_seen (hu9_of hr))))
 (pss_one (ps_ret (pv 7)))))))), ?_⟩)
    · obtain ⟨v1, v2, v3, v4, D, us, p0, p, path, stock, m, n, rfl, _⟩ := h
      rfl
    obtain ⟨v1, v2, v3, v4, D, us, p0, p, path, stock, m, n, rfl, lp, q⟩ := h
    obtain ⟨pp, rfl, hpp⟩ := id lp.pa
    obtain ⟨ss, rfl, hss⟩ := id lp.st
    have hl := lp.held
    cases p with
    | ask r p => exact lp.lo.elim
    | bring r p => exact lp.lo.elim
    | either a b => exact lp.lo.elim
    | ours a b => exact lp.lo.elim
    | fin =>
      obtain ⟨pa, rfl, hpa⟩ := id lp.pl
      refine ⟨_, rfl, _, rfl, by show 2 ≤ sizeLine; decide, fun a na => ?_⟩
      have s1 := same_new na (.tup [.ref pp, .ref ss])
      have ka : KeyAt (upd H a (.tup [.ref pp, .ref ss])) a (path, stock) := ⟨pp, ss, upd_same, s1 _ _ hpp, s1 _ _ hss⟩
      have sa := lp.sa.same s1
      refine ⟨_, rfl, _, rfl, a, D, (path, stock), m, rfl, rfl, ka, sa, _, rfl, ?_⟩
      cases e : valV m (path, stock) with
      | some v =>
        refine iteT ?_
        refine ⟨_, rfl, _, rfl, D, a, _, m, v, rfl, rfl, ka, sa, e, ?_⟩
        rw [lp.so.get e lp.sb]
        exact q _ _ (.of s1) sa lp.so
      | none =>
        refine iteF ?_
        refine ⟨_, rfl, pa, _, 0, .str "end", rfl, rfl, SqT.of (s1 _ _ hpa), atI_nat (j := 0) rfl, _, _, rfl, ?_⟩
        refine ⟨_, rfl, rfl, _, rfl, iteNe (by decide) ?_⟩
        refine ⟨_, rfl, rfl, _, rfl, iteNe (by decide) ?_⟩
        refine ⟨_, rfl, rfl, _, rfl, ?_⟩
        refine iteF ?_
        refine ⟨_, rfl, _, rfl, _, rfl, D, a, _, m, rfl, rfl, ka, sa, lp.so.few lp.uo lp.two lp.hd, fun H3 keep sa3 => ?_⟩
        exact ⟨_, rfl, q H3 _ ((Sb.of s1).keepD keep) sa3 (show SeenOk us p0 (putK m (path, stock) (.bl true)) from lp.so.put (k := (path, stock)) hl lp.sb)⟩
  | succ d ih =>
    have GWLive := ih
    refine T.wLive.F.ok (k := 3 + d) scWLive (fun vs H Q E h => ?_) (fun cdv A outer s H vs Q E hr h => ⟨_, (pss_cons (ps_set (i := 5) scWLive.nd rfl (.inl rfl) (pe_tup (pa_cons (pv 2) (pa_cons (pv 3) pa_nil))))
 (pss_cons (ps_if (pt_cmpR (op_inSeen (hu9_of hr)) (pv 5) (pv 4) rfl) (pss_one (ps_ret (pe_seenGet (hu9_of hr) (pv 4) (pv 5) (fun _ _ => rfl)))) pss_nil)
 (pss_cons (ps_par (i := 6) (j := 7) rfl scWLive.nd rfl rfl (by decide) rfl rfl (pa_cons (pe_ix ix_tup (pv 1) pe_int (fun _ _ => rfl)) (pa_cons pe_bl pa_nil)) rfl)
 (pss_cons (ps_if (pt_cmpR op_eq (pv 6) pe_str (nomark _)) (pss_one (ps_set (i := 7) scWLive.nd rfl (.inl rfl) (pe_call GWLive (hr.mono (by first | decide | omega)) rfl T.wLive.g T.wLive.F.kp T.wLive.b .nil pass0 (pa_cons (pv 0) (pa_cons (pe_ix ix_tup (pv 1) pe_int (fun _ _ => rfl)) (pa_cons (pe_op op_catU (pv 2) (pe_tup (pa_cons pe_int pa_nil))) (pa_cons (pe_call GWBeside (hr.mono (by first | decide | omega)) rfl T.wBeside.g T.wBeside.F.kp T.wBeside.b .nil pass0 (pa_cons (pv 3) (pa_cons (pe_ix ix_tup (pv 1) pe_int (fun _ _ => rfl)) pa_nil))) (pa_cons (pv 4) pa_nil)))))))) (pss_one (ps_if (pt_cmpR op_eq (pv 6) pe_str (nomark _)) (pss_cons (ps_set (i := 7) scWLive.nd rfl (.inl rfl) pe_bl)
 (pss_one (ps_for PassesOwn.never rfl (pi_list (pe_call GWLefts (hr.mono (by first | decide | omega)) rfl T.wLefts.g T.wLefts.F.kp T.wLefts.b .nil pass0 (pa_cons (pv 0) (pa_cons (pv 3) (pa_cons (pe_ix ix_tup (pv 1) pe_int (fun _ _ => rfl)) pa_nil))))) (pg_name (i := 8) scWLive.nd rfl (.inl rfl)) (pss_one (ps_set (i := 7) scWLive.nd rfl (.inl rfl) (pe_or (pv 7) (pe_one (pe_call GWLive (hr.mono (by first | decide | omega)) rfl T.wLive.g T.wLive.F.kp T.wLive.b .nil pass0 (pa_cons (pv 0) (pa_cons (pe_ix ix_tup (pv 1) pe_int (fun _ _ => rfl)) (pa_cons (pe_op op_catU (pv 2) (pe_tup (pa_cons pe_int pa_nil))) (pa_cons (pv 8) (pa_cons (pv 4) pa_nil))))))))))))) (pss_one (ps_if (pt_cmpR op_ne (pv 6) pe_str (nomark _)) (pss_cons (ps_set (i := 9) scWLive.nd rfl (.inl rfl) (pe_call GWLive (hr.mono (by first | decide | omega)) rfl T.wLive.g T.wLive.F.kp T.wLive.b .nil pass0 (pa_cons (pv 0) (pa_cons (pe_ix ix_tup (pv 1) pe_int (fun _ _ => rfl)) (pa_cons (pe_op op_catU (pv 2) (pe_tup (pa_cons pe_int pa_nil))) (pa_cons (pv 3) (pa_cons (pv 4) pa_nil)))))))
 (pss_cons (ps_set (i := 10) scWLive.nd rfl (.inl rfl) (pe_call GWLive (hr.mono (by first | decide | omega)) rfl T.wLive.g T.wLive.F.kp T.wLive.b .nil pass0 (pa_cons (pv 0) (pa_cons (pe_ix ix_tup (pv 1) pe_int (fun _ _ => rfl)) (pa_cons (pe_op op_catU (pv 2) (pe_tup (pa_cons pe_int pa_nil))) (pa_cons (pv 3) (pa_cons (pv 4) pa_nil)))))))
 (pss_one (ps_set (i := 7) scWLive.nd rfl (.inl rfl) (pe_ifExp (pt_cmpR op_eq (pv 6) pe_str (nomark _)) (pe_and (pv 9) (pe_one (pv 10))) (pe_or (pv 9) (pe_one (pv 10)))))))) pss_nil)))))
 (pss_cons (ps_asg (pv 7) (pg_sub (pv 4) (pv 5) (set_seen (hu9_of hr))))
 (pss_one (ps_ret (pv 7)))))))), ?_⟩)
    · obtain ⟨v1, v2, v3, v4, D, us, p0, p, path, stock, m, n, rfl, _⟩ := h
      rfl
    obtain ⟨v1, v2, v3, v4, D, us, p0, p, path, stock, m, n, rfl, lp, q⟩ := h
    obtain ⟨pp, rfl, hpp⟩ := id lp.pa
    obtain ⟨ss, rfl, hss⟩ := id lp.st
    have hl := lp.held
    have val := lp.val
    have pos : ∀ z ∈ sizesM us, 0 ≤ z := fun z hz => by have := (lp.uo.sizes hz).1; omega
    have plen : path.length ≤ 6 := by
      have := (sub_facts _ _ _ lp.sb).2
      have := lp.hd
      omega
    refine ⟨_, rfl, _, rfl, by show 2 ≤ sizeLine; decide, fun a na => ?_⟩
    have s1 := same_new na (.tup [.ref pp, .ref ss])
    have ka : KeyAt (upd H a (.tup [.ref pp, .ref ss])) a (path, stock) := ⟨pp, ss, upd_same, s1 _ _ hpp, s1 _ _ hss⟩
    have sa := lp.sa.same s1
    have nt := sa.notTup
    generalize upd H a (.tup [.ref pp, .ref ss]) = H1 at s1 ka sa nt ⊢
    refine ⟨_, rfl, _, rfl, a, D, (path, stock), m, rfl, rfl, ka, sa, _, rfl, ?_⟩
    cases e : valV m (path, stock) with
    | some v =>
      refine iteT ?_
      refine ⟨_, rfl, _, rfl, D, a, _, m, v, rfl, rfl, ka, sa, e, ?_⟩
      rw [lp.so.get e lp.sb]
      exact q _ _ (.of s1) sa lp.so
    | none =>
    refine iteF ?_
    have hu1 := lp.u.same s1
    have hpp1 := s1 _ _ hpp
    have hss1 := s1 _ _ hss
    have stay : ∀ {H2 H3 : Hp} {m2 : List (SKey × V)}, Sb D H1 H2 → (∀ c, c ≠ D → H3 c = H2 c) → SeenAt P w H3 D (putK m2 (path, stock) (.bl (livesS us p (stair us stock)))) → SeenOk us p0 m2 → Q (.bl (livesS us p (stair us stock))) H3 := fun sb keep sa3 so2 =>
      q _ _ (((Sb.of s1).trans sb).keepD keep) sa3 (so2.put (k := (path, stock)) hl lp.sb)
    cases p with
    | fin =>
      obtain ⟨pa, rfl, hpa⟩ := id lp.pl
      refine ⟨_, rfl, pa, _, 0, .str "end", rfl, rfl, SqT.of (s1 _ _ hpa), atI_nat (j := 0) rfl, _, _, rfl, ?_⟩
      refine ⟨_, rfl, rfl, _, rfl, iteNe (by decide) ?_⟩
      refine ⟨_, rfl, rfl, _, rfl, iteNe (by decide) ?_⟩
      refine ⟨_, rfl, rfl, _, rfl, ?_⟩
      refine iteF ?_
      refine ⟨_, rfl, _, rfl, _, rfl, D, a, _, m, rfl, rfl, ka, sa, lp.so.few lp.uo lp.two lp.hd, fun H3 keep sa3 => ?_⟩
      exact ⟨_, rfl, stay (Sb.refl D H1) keep sa3 lp.so⟩
    | bring r p =>
      obtain ⟨pa, x, y, rfl, hpa, hx, hy⟩ := id lp.pl
      have hpa1 := s1 _ _ hpa
      refine ⟨_, rfl, pa, _, 0, .str "bring", rfl, rfl, SqT.of hpa1, atI_nat (j := 0) rfl, _, _, rfl, ?_⟩
      refine ⟨_, rfl, rfl, _, rfl, iteEq ?_⟩
      have ro := lp.lo.1
      refine ⟨_, rfl, _, rfl, pa, _, 2, y, rfl, rfl, SqT.of hpa1, atI_nat (j := 2) rfl, ?_⟩
      refine ⟨_, rfl, by show 1 ≤ sizeLine; decide, fun t nt2 => ⟨pp, t, path.map V.int, [.int 2], rfl, rfl, same_new nt2 _ _ _ hpp1, upd_same, by rw [List.length_map]; simp; omega, fun H2 p2 s2 hp2 => ?_⟩⟩
      have s12 := (same_new nt2 (.tup [.int 2])).trans s2
      refine ⟨_, rfl, _, rfl, pa, _, 1, x, rfl, rfl, SqT.of (s12 _ _ hpa1), atI_nat (j := 1) rfl, ?_⟩
      refine ⟨.ref ss, x, stock, r, rfl, ⟨ss, rfl, s12 _ _ hss1⟩, (hx.same s1).same s12, by have := lp.ln; have := lp.two; omega, fun H3 sv s3 hsv => ?_⟩
      have s13 := s12.trans s3
      have rl := ro.1
      have ln := lp.ln
      have dl := dot_add stock r (sizesM us) (by omega)
      have r4 := ro.2.2
      refine ⟨_, rfl, v1, y, .ref p2, sv, D, us, p0, p, path ++ [2], zadd stock r, m, n, rfl, ⟨hu1.same s13, (hy.same s1).same s13, (path_snoc hp2).same s3, hsv, sa.same s13, lp.so, lp.uo, lp.two, lp.hd, ?_, lp.lo.2, lp.ok.2, ?_, ?_, ?_⟩, fun H4 m4 sb4 sa4 so4 => ?_⟩
      · rw [sub_snoc path p0 _ 2 lp.sb]
        rfl
      · rw [zadd_length (by omega), ln]
      · exact nn_zadd lp.nn ro.2.1
      · rw [dl]
        have : ((d + 1 : Nat) : Int) = (d : Int) + 1 := by omega
        omega
      have sb := (Sb.of (F := D) s13).trans sb4
      have ka4 := ka.mono (sb.tups nt)
      have e1 : livesS us p (stair us (zadd stock r)) = livesS us (.bring r p) (stair us stock) := by
        rw [stair_add ln rl]
        rfl
      rw [e1]
      refine ⟨_, rfl, _, rfl, _, rfl, D, a, _, m4, rfl, rfl, ka4, sa4, so4.few lp.uo lp.two lp.hd, fun H5 keep sa5 => ?_⟩
      exact ⟨_, rfl, stay sb keep sa5 so4⟩
    | ask r p =>
      obtain ⟨pa, x, y, rfl, hpa, hx, hy⟩ := id lp.pl
      have hpa1 := s1 _ _ hpa
      refine ⟨_, rfl, pa, _, 0, .str "ask", rfl, rfl, SqT.of hpa1, atI_nat (j := 0) rfl, _, _, rfl, ?_⟩
      refine ⟨_, rfl, rfl, _, rfl, iteNe (by decide) ?_⟩
      refine ⟨_, rfl, rfl, _, rfl, iteEq ?_⟩
      have ro := lp.lo.1
      refine ⟨_, rfl, _, rfl, _, rfl, pa, _, 1, x, rfl, rfl, SqT.of hpa1, atI_nat (j := 1) rfl, ?_⟩
      refine ⟨v1, .ref ss, x, us, r, stock, rfl, hu1, ⟨ss, rfl, hss1⟩, hx.same s1, hl.cut lp.uo lp.two, ro, fun H2 v s2 hv => ?_⟩
      obtain ⟨rs, ls, cq, ⟨l, vs, rfl, hl2, hls⟩, mem⟩ := hv
      have ae := ask_eq (p := p) (hl.cut lp.uo lp.two) cq lp.ok.2 ro.1 ro.2
      have hlen := paired_length hls
      have sa2 := sa.same s2
      have nt2 := sa2.notTup
      have lD := sa2.neL hl2
      have hpa2 := s2 _ _ hpa1
      refine ⟨l, rfl, ⟨_, SqL.of hl2⟩, for_list (xs := vs) (fun i σ H' => ∃ b v8 m', σ = [some v1, some (.ref pa), some (.ref pp), some (.ref ss), some (.ref D), some (.ref a), some (.str "ask"), some (.bl b), v8, none, none] ∧ Sb D H2 H' ∧ SeenAt P w H' D m' ∧ SeenOk us p0 m' ∧
        b = (ls.take i).any fun z => livesS us p (stair us z)) ⟨false, none, m, rfl, Sb.refl D H2, sa2, lp.so, rfl⟩ (fun i σ H' _ ⟨_, _, _, _, sb, _⟩ => SqL.of (sb _ _ lD hl2)) ?_ ?_⟩
      · rintro i v σ H3 hv ⟨b, v8, m3, rfl, sb3, sa3, so3, eb⟩
        obtain ⟨z, hz, tz⟩ := hls.nth hv
        obtain ⟨xx, hxx, nz, ez⟩ := (mem z).mp (List.mem_of_getElem? hz)
        obtain ⟨x1, x2, x3⟩ := (hl.cut lp.uo lp.two).ok (cq.reach xx hxx)
        have ts := sb3.tups nt2
        have st : (ls.take (i + 1)).any (fun z => livesS us p (stair us z)) = (b || livesS us p (stair us z)) := by
          rw [take_snoc hz, List.any_append, eb, List.any_cons, List.any_nil, Bool.or_false]
        have tz3 := tz.mono ts
        have hpa3 := ts _ _ hpa2
        have hpp3 := ts _ _ (s2 _ _ hpp1)
        have nt3 := sa3.notTup
        have hu3 := (hu1.same s2).mono ts
        have hy3 := ((hy.same s1).same s2).mono ts
        refine ⟨_, rfl, b, rfl, ?_⟩
        cases b with
        | true =>
          refine iteT ⟨true, _, m3, rfl, sb3, sa3, so3, ?_⟩
          rw [st]
          rfl
        | false =>
          refine iteF ?_
          refine ⟨_, rfl, _, rfl, pa, _, 2, y, rfl, rfl, SqT.of hpa3, atI_nat (j := 2) rfl, ?_⟩
          refine ⟨_, rfl, by show 1 ≤ sizeLine; decide, fun t ntt => ⟨pp, t, path.map V.int, [.int 2], rfl, rfl, same_new ntt _ _ _ hpp3, upd_same, by rw [List.length_map]; simp; omega, fun H4 p2 s4 hp2 => ?_⟩⟩
          have s34 := (same_new ntt (.tup [.int 2])).trans s4
          have r1 := ro.1
          have sd := dot_sub_le xx r (sizesM us) (by omega) ro.2 pos
          refine ⟨_, rfl, _, rfl, v1, y, .ref p2, v, D, us, p0, p, path ++ [2], z, m3, n, rfl, ⟨hu3.same s34, hy3.same s34, path_snoc hp2, tz3.same s34, sa3.same s34, so3, lp.uo, lp.two, lp.hd, ?_, lp.lo.2, lp.ok.2, ?_, ?_, ?_⟩, fun H5 m5 sb5 sa5 so5 => ?_⟩
          · rw [sub_snoc path p0 _ 2 lp.sb]
            rfl
          · rw [ez, zsub_length (by omega), x1]
          · rw [ez]
            exact nz
          · rw [ez]
            have : ((d + 1 : Nat) : Int) = (d : Int) + 1 := by omega
            omega
          exact ⟨_, _, m5, rfl, (sb3.trans (.of s34)).trans sb5, sa5, so5, by rw [st]; rfl⟩
      · rintro σ H3 ⟨b, v8, m3, rfl, sb3, sa3, so3, eb⟩
        rw [hlen, List.take_length] at eb
        have e1 : b = livesS us (.ask r p) (stair us stock) := by
          rw [eb, Bool.eq_iff_iff, ← ae, List.any_eq_true]
          constructor
          · rintro ⟨z, hz, lz⟩
            obtain ⟨xx, hxx, nz, ez⟩ := (mem z).mp hz
            exact ⟨xx, hxx, nz, by rw [← ez]; exact lz⟩
          · rintro ⟨xx, hxx, nz, lz⟩
            exact ⟨_, (mem _).mpr ⟨xx, hxx, nz, rfl⟩, lz⟩
        rw [e1]
        have sb := (Sb.of (F := D) s2).trans sb3
        have ka3 := ka.mono (sb.tups nt)
        refine ⟨_, rfl, _, rfl, _, rfl, D, a, _, m3, rfl, rfl, ka3, sa3, so3.few lp.uo lp.two lp.hd, fun H5 keep sa5 => ?_⟩
        exact ⟨_, rfl, stay sb keep sa5 so3⟩
    | either p1 p2 =>
      obtain ⟨pa, x, y, rfl, hpa, hx, hy⟩ := id lp.pl
      have hpa1 := s1 _ _ hpa
      refine ⟨_, rfl, pa, _, 0, .str "either", rfl, rfl, SqT.of hpa1, atI_nat (j := 0) rfl, _, _, rfl, ?_⟩
      refine ⟨_, rfl, rfl, _, rfl, iteNe (by decide) ?_⟩
      refine ⟨_, rfl, rfl, _, rfl, iteNe (by decide) ?_⟩
      refine ⟨_, rfl, rfl, _, rfl, ?_⟩
      rw [decide_eq_false (by decide : ¬ V.str (Str.ofString "either") = V.str (Str.ofString "end"))]
      refine iteT ?_
      have dd : ((d + 1 : Nat) : Int) = (d : Int) + 1 := by omega
      refine ⟨_, rfl, _, rfl, pa, _, 1, x, rfl, rfl, SqT.of hpa1, atI_nat (j := 1) rfl, ?_⟩
      refine ⟨_, rfl, by show 1 ≤ sizeLine; decide, fun t ntt => ⟨pp, t, path.map V.int, [.int 1], rfl, rfl, same_new ntt _ _ _ hpp1, upd_same, by rw [List.length_map]; simp; omega, fun H2 q1 s2 hq1 => ?_⟩⟩
      have s12 := (same_new ntt (.tup [.int 1])).trans s2
      refine ⟨_, rfl, _, rfl, v1, x, .ref q1, .ref ss, D, us, p0, p1, path ++ [1], stock, m, n, rfl, ⟨hu1.same s12, (hx.same s1).same s12, path_snoc hq1, ⟨ss, rfl, s12 _ _ hss1⟩, sa.same s12, lp.so, lp.uo, lp.two, lp.hd, ?_, lp.lo.1, lp.ok.1, lp.ln, lp.nn, by omega⟩, fun H3 m3 sb3 sa3 so3 => ?_⟩
      · rw [sub_snoc path p0 _ 1 lp.sb]
        rfl
      have sb13 := (Sb.of (F := D) s12).trans sb3
      have ts := sb13.tups nt
      have hpa3 := ts _ _ hpa1
      have hpp3 := ts _ _ hpp1
      have hss3 := ts _ _ hss1
      refine ⟨_, rfl, _, rfl, pa, _, 2, y, rfl, rfl, SqT.of hpa3, atI_nat (j := 2) rfl, ?_⟩
      refine ⟨_, rfl, by show 1 ≤ sizeLine; decide, fun t ntt => ⟨pp, t, path.map V.int, [.int 2], rfl, rfl, same_new ntt _ _ _ hpp3, upd_same, by rw [List.length_map]; simp; omega, fun H4 q2 s4 hq2 => ?_⟩⟩
      have s34 := (same_new ntt (.tup [.int 2])).trans s4
      refine ⟨_, rfl, _, rfl, v1, y, .ref q2, .ref ss, D, us, p0, p2, path ++ [2], stock, m3, n, rfl, ⟨(hu1.mono ts).same s34, ((hy.same s1).mono ts).same s34, path_snoc hq2, ⟨ss, rfl, s34 _ _ hss3⟩, sa3.same s34, so3, lp.uo, lp.two, lp.hd, ?_, lp.lo.2, lp.ok.2, lp.ln, lp.nn, by omega⟩, fun H5 m5 sb5 sa5 so5 => ?_⟩
      · rw [sub_snoc path p0 _ 2 lp.sb]
        rfl
      have sb := (sb13.trans (.of s34)).trans sb5
      have ka5 := ka.mono (sb.tups nt)
      have e1 : livesS us (.either p1 p2) (stair us stock) = (livesS us p1 (stair us stock) && livesS us p2 (stair us stock)) := rfl
      rw [e1] at stay
      refine ⟨_, rfl, rfl, _, rfl, iteEq ?_⟩
      refine ⟨_, rfl, _, rfl, ?_⟩
      cases b1 : livesS us p1 (stair us stock) with
      | true =>
        rw [b1] at stay
        refine iteT ?_
        refine ⟨_, rfl, ?_⟩
        rw [Bool.true_and] at stay
        refine ⟨_, rfl, _, rfl, _, rfl, D, a, _, m5, rfl, rfl, ka5, sa5, so5.few lp.uo lp.two lp.hd, fun H6 keep sa6 => ?_⟩
        exact ⟨_, rfl, stay sb keep sa6 so5⟩
      | false =>
        rw [b1] at stay
        refine iteF ?_
        rw [Bool.false_and] at stay
        refine ⟨_, rfl, _, rfl, _, rfl, D, a, _, m5, rfl, rfl, ka5, sa5, so5.few lp.uo lp.two lp.hd, fun H6 keep sa6 => ?_⟩
        exact ⟨_, rfl, stay sb keep sa6 so5⟩
    | ours p1 p2 =>
      obtain ⟨pa, x, y, rfl, hpa, hx, hy⟩ := id lp.pl
      have hpa1 := s1 _ _ hpa
      refine ⟨_, rfl, pa, _, 0, .str "ours", rfl, rfl, SqT.of hpa1, atI_nat (j := 0) rfl, _, _, rfl, ?_⟩
      refine ⟨_, rfl, rfl, _, rfl, iteNe (by decide) ?_⟩
      refine ⟨_, rfl, rfl, _, rfl, iteNe (by decide) ?_⟩
      refine ⟨_, rfl, rfl, _, rfl, ?_⟩
      rw [decide_eq_false (by decide : ¬ V.str (Str.ofString "ours") = V.str (Str.ofString "end"))]
      refine iteT ?_
      have dd : ((d + 1 : Nat) : Int) = (d : Int) + 1 := by omega
      refine ⟨_, rfl, _, rfl, pa, _, 1, x, rfl, rfl, SqT.of hpa1, atI_nat (j := 1) rfl, ?_⟩
      refine ⟨_, rfl, by show 1 ≤ sizeLine; decide, fun t ntt => ⟨pp, t, path.map V.int, [.int 1], rfl, rfl, same_new ntt _ _ _ hpp1, upd_same, by rw [List.length_map]; simp; omega, fun H2 q1 s2 hq1 => ?_⟩⟩
      have s12 := (same_new ntt (.tup [.int 1])).trans s2
      refine ⟨_, rfl, _, rfl, v1, x, .ref q1, .ref ss, D, us, p0, p1, path ++ [1], stock, m, n, rfl, ⟨hu1.same s12, (hx.same s1).same s12, path_snoc hq1, ⟨ss, rfl, s12 _ _ hss1⟩, sa.same s12, lp.so, lp.uo, lp.two, lp.hd, ?_, lp.lo.1, lp.ok.1, lp.ln, lp.nn, by omega⟩, fun H3 m3 sb3 sa3 so3 => ?_⟩
      · rw [sub_snoc path p0 _ 1 lp.sb]
        rfl
      have sb13 := (Sb.of (F := D) s12).trans sb3
      have ts := sb13.tups nt
      have hpa3 := ts _ _ hpa1
      have hpp3 := ts _ _ hpp1
      have hss3 := ts _ _ hss1
      refine ⟨_, rfl, _, rfl, pa, _, 2, y, rfl, rfl, SqT.of hpa3, atI_nat (j := 2) rfl, ?_⟩
      refine ⟨_, rfl, by show 1 ≤ sizeLine; decide, fun t ntt => ⟨pp, t, path.map V.int, [.int 2], rfl, rfl, same_new ntt _ _ _ hpp3, upd_same, by rw [List.length_map]; simp; omega, fun H4 q2 s4 hq2 => ?_⟩⟩
      have s34 := (same_new ntt (.tup [.int 2])).trans s4
      refine ⟨_, rfl, _, rfl, v1, y, .ref q2, .ref ss, D, us, p0, p2, path ++ [2], stock, m3, n, rfl, ⟨(hu1.mono ts).same s34, ((hy.same s1).mono ts).same s34, path_snoc hq2, ⟨ss, rfl, s34 _ _ hss3⟩, sa3.same s34, so3, lp.uo, lp.two, lp.hd, ?_, lp.lo.2, lp.ok.2, lp.ln, lp.nn, by omega⟩, fun H5 m5 sb5 sa5 so5 => ?_⟩
      · rw [sub_snoc path p0 _ 2 lp.sb]
        rfl
      have sb := (sb13.trans (.of s34)).trans sb5
      have ka5 := ka.mono (sb.tups nt)
      have e1 : livesS us (.ours p1 p2) (stair us stock) = (livesS us p1 (stair us stock) || livesS us p2 (stair us stock)) := rfl
      rw [e1] at stay
      refine ⟨_, rfl, rfl, _, rfl, iteNe (by decide) ?_⟩
      refine ⟨_, rfl, _, rfl, ?_⟩
      cases b1 : livesS us p1 (stair us stock) with
      | true =>
        rw [b1] at stay
        refine iteT ?_
        rw [Bool.true_or] at stay
        refine ⟨_, rfl, _, rfl, _, rfl, D, a, _, m5, rfl, rfl, ka5, sa5, so5.few lp.uo lp.two lp.hd, fun H6 keep sa6 => ?_⟩
        exact ⟨_, rfl, stay sb keep sa6 so5⟩
      | false =>
        rw [b1] at stay
        refine iteF ?_
        refine ⟨_, rfl, ?_⟩
        rw [Bool.false_or] at stay
        refine ⟨_, rfl, _, rfl, _, rfl, D, a, _, m5, rfl, rfl, ka5, sa5, so5.few lp.uo lp.two lp.hd, fun H6 keep sa6 => ?_⟩
        exact ⟨_, rfl, stay sb keep sa6 so5⟩
end
end K40
end
section
set_option Elab.async false
set_option linter.all false
set_option autoImplicit false
set_option maxRecDepth 100000
set_option maxHeartbeats 4000000
/-! The law's list_right. -/
namespace K40
open PySem PySem.Spec PyProof.Rows L2 LamX
theorem eqvAll_rows : ∀ A : List Row, PyData.eqvAll (A.map rowD) (A.map rowD) = true
  | [] => rfl
  | r :: rs => by
    simp only [List.map_cons, PyData.eqvAll, eqv_row, eqvAll_rows rs]
    simp
theorem eqv_list (A : List Row) : PyData.eqv (.list (A.map rowD)) (.list (A.map rowD)) = true := eqvAll_rows A
theorem cut_take {xs : List V} {i : Nat} (h : i ≤ xs.length) : cutV xs none (some (i : Int)) = xs.take i := by
  unfold cutV
  rw [HT.sIx_none, HT.sIx_nat, List.drop_zero]
  congr 1
  omega
/-- what is told: in order, none within another, small -/
structure ToldOk (us : List Int) (A : List Row) : Prop where
  ok : RowsOk us A
  low : ∀ a ∈ A, dot a (sizesM us) ≤ 60
  few : A.length ≤ 1000
def spRight : Sp := fun vs H Q _ => ∃ v1 v2 us A, vs = [v1, v2] ∧ TI H v1 us ∧ TR H v2 A ∧ UOk us ∧ us.length ≤ 2 ∧ ToldOk us A ∧ Ret H Q fun _ v => v = .bl true
section
variable {P : Program} {w : World} {K : PySem.W.Frag} {mg : Str → Option Value} {base : Heap}
theorem scWListRight : FnScope ["_law_units_so", "_law_told", "_law_place", "_law_row_here", "_law_other"] ["_law_units_so", "_law_told"] (defScope sWListRight) := ⟨rfl, rfl, rfl, by decide +kernel, rfl, by decide +kernel, by decide +kernel⟩
theorem ok_wListRight (T : Wd K mg) : FnOk P w K mg base CX0 3 T.wListRight.f T.wListRight.fd ["_law_units_so", "_law_told"] spRight := by
  have GWFits := ok_wFits (P := P) (w := w) (base := base) T
  refine T.wListRight.F.ok scWListRight (fun vs H Q E h => ?_) (fun cdv A outer s H vs Q E hr h => ⟨_, (pss_cons (ps_if (PW.pt (pw_or (pt_not (pt_val (pe_callB call_isi (by rfl) T.nIsinstance (by decide +kernel) (pa_cons (pv 1) (pa_cons (pe_bltn (v := .ty "tuple") (u := .type "tuple") rfl T.nTuple (by decide +kernel) rfl) pa_nil))))) (pw_or1 (pt_cmpR (op_neD (hu64_of hr)) (pe_callTy call_list_of (by rfl) T.nList (by decide +kernel) (pa_cons (pv 1) pa_nil)) (pe_callB (cr_sortRows rfl (hu9_of hr)) (by rfl) T.nSorted (by decide +kernel) (pa_cons (pv 1) pa_nil)) (nomark _))))) (pss_one (ps_ret pe_bl)) pss_nil)
 (pss_cons (ps_for PassesOwn.never rfl (pi_enumT (by rfl) T.nEnumerate (pa_cons (pv 1) pa_nil)) (pg_tup rfl (pgs_cons (pg_name (i := 2) scWListRight.nd rfl (.inl rfl)) (pgs_cons (pg_name (i := 3) scWListRight.nd rfl (.inl rfl)) pgs_nil))) (pss_one (ps_for PassesOwn.never rfl (pi_tup (pe_slice sl_tupA (pv 1) po_none (po_some (pv 2)))) (pg_name (i := 4) scWListRight.nd rfl (.inl rfl)) (pss_one (ps_if (PW.pt (pw_or (pt_val (pe_call GWFits (hr.mono (by first | decide | omega)) rfl T.wFits.g T.wFits.F.kp T.wFits.b .nil pass0 (pa_cons (pv 0) (pa_cons (pv 3) (pa_cons (pv 4) pa_nil))))) (pw_or1 (pt_val (pe_call GWFits (hr.mono (by first | decide | omega)) rfl T.wFits.g T.wFits.F.kp T.wFits.b .nil pass0 (pa_cons (pv 0) (pa_cons (pv 4) (pa_cons (pv 3) pa_nil)))))))) (pss_one (ps_ret pe_bl)) pss_nil)))))
 (pss_one (ps_ret pe_bl)))), ?_⟩)
  · obtain ⟨v1, v2, us, A, rfl, _⟩ := h
    rfl
  obtain ⟨v1, _, us, A, rfl, hu, ⟨t, vs, rfl, ht, hA⟩, uo, two, to, k⟩ := h
  refine ⟨_, rfl, .ref t, .ty "tuple", _, _, true, rfl, .ty _, .base (.tup ht), kit_ty (by decide +kernel), true, rfl, iteF ?_⟩
  have nz : ∀ r ∈ A, r ≠ [] := fun r hr e => by
    have := to.ok.len r hr
    rw [e] at this
    simp at this
  have hlen := paired_length hA
  refine ⟨_, rfl, t, vs, rfl, .inr (SqT.of ht), fun l nl => ?_⟩
  have s1 := same_new nl (.lst vs)
  have hl1 := upd_same (H := H) (a := l) (o := .lst vs)
  have hA1 := hA.same s1
  refine ⟨_, rfl, t, vs, A, rfl, .inr (SqT.of (s1 _ _ ht)), hA1, nz, fun p ys np hys => ?_⟩
  rw [sortR_id to.ok.asc] at hys
  have s2 := same_new np (.lst ys)
  refine ⟨_, _, .lst (SqL.of (s2 _ _ hl1)) (hA1.same s2).dp, .lst (SqL.of upd_same) (hys.same s2).dp, shaped_rows A, shaped_rows A, _, rfl, ?_⟩
  rw [eqv_list]
  refine iteF ?_
  have s12 := s1.trans s2
  have ht2 := s12 _ _ ht
  refine ⟨_, rfl, t, vs, rfl, SqT.of ht2, for_it (walk_enumT (K := K) (a := t) (xs := vs)) (fun i σ H' => ∃ v3 v4 v5, σ = [some v1, some (.ref t), v3, v4, v5] ∧ Same H H')
    ⟨none, none, none, rfl, s12⟩ (fun i σ H' _ ⟨_, _, _, _, s3⟩ => SqT.of (s3 _ _ ht)) ?_ ?_⟩
  · rintro i y σ H1 H' hi ⟨v3, v4, v5, rfl, s3⟩ ⟨Tu, y1, y2, rfl, hT, rfl, e1, e2⟩
    cases e1
    obtain ⟨a, ha, ta⟩ := hA.nth e2
    have s4 : Same H1 (upd H1 Tu (.tup [.int (i : Nat), y2])) := same_new hT _
    have s34 := s3.trans s4
    refine ⟨_, _, rfl, SqT.of upd_same, rfl, _, _, rfl, _, _, rfl, rfl, ?_⟩
    refine ⟨_, rfl, _, rfl, i, rfl, t, vs, rfl, SqT.of (s34 _ _ ht), fun z => ?_, fun _ p np => ?_⟩
    · exfalso
      have h2 := z.2
      rw [HT.sIx_nat] at h2
      omega
    rw [cut_take (by omega)]
    have s5 := same_new np (.tup (vs.take i))
    have s35 := s34.trans s5
    refine ⟨p, rfl, ⟨_, SqT.of upd_same⟩, for_tup (xs := vs.take i) (fun j σ H' => ∃ v5, σ = [some v1, some (.ref t), some (.int (i : Nat)), some y2, v5] ∧ Same (upd (upd H1 Tu (.tup [.int (i : Nat), y2])) p (.tup (vs.take i))) H')
      ⟨v5, rfl, Same.refl _⟩ (fun j σ H' _ ⟨_, _, s6⟩ => SqT.of (s6 _ _ upd_same)) ?_ ?_⟩
    · rintro j b σ H3 hb ⟨v5, rfl, s6⟩
      have s36 := s35.trans s6
      have hj : j < i ∧ vs[j]? = some b := by
        rw [List.getElem?_take] at hb
        split at hb
        · exact ⟨by assumption, hb⟩
        · cases hb
      obtain ⟨o, ho, tb⟩ := hA.nth hj.2
      have an := List.pairwise_iff_getElem.mp to.ok.anti
      obtain ⟨ja, ea⟩ := List.getElem?_eq_some_iff.mp ho
      obtain ⟨ia, eb⟩ := List.getElem?_eq_some_iff.mp ha
      have w1 := an j i ja ia hj.1
      rw [ea, eb] at w1
      have ma := List.mem_of_getElem? ha
      have mo := List.mem_of_getElem? ho
      have ca : CutP us a := ⟨uo, two, to.ok.len a ma, to.ok.pos a ma, to.low a ma⟩
      have co : CutP us o := ⟨uo, two, to.ok.len o mo, to.ok.pos o mo, to.low o mo⟩
      refine ⟨_, rfl, _, rfl, _, rfl, v1, y2, b, us, a, o, rfl, hu.same s36, ta.same s36, tb.same s36, co, ⟨to.ok.len a ma, to.ok.pos a ma⟩, fun H4 v s7 e => ?_⟩
      subst e
      refine ⟨_, rfl, ?_⟩
      rw [w1.2]
      refine iteF ?_
      have s37 := s36.trans s7
      refine ⟨_, rfl, _, rfl, _, rfl, v1, b, y2, us, o, a, rfl, hu.same s37, tb.same s37, ta.same s37, ca, ⟨to.ok.len o mo, to.ok.pos o mo⟩, fun H5 v s8 e => ?_⟩
      subst e
      refine ⟨_, rfl, ?_⟩
      rw [w1.1]
      exact iteF ⟨_, rfl, (s6.trans s7).trans s8⟩
    · rintro σ H3 ⟨v5, rfl, s6⟩
      exact ⟨_, _, _, rfl, s35.trans s6⟩
  · rintro σ H1 ⟨v3, v4, v5, rfl, s3⟩
    exact k _ _ s3 rfl
end
end K40
end
section
set_option Elab.async false
set_option linter.all false
set_option autoImplicit false
set_option maxRecDepth 100000
set_option maxHeartbeats 4000000
/-! Defs that ask repr: no repr is under way around them. -/
namespace K40
open PySem PySem.Spec PyProof.Rows L2 LamX
/-- a def's promise where no repr is under way -/
structure FnG (P : Program) (w : World) (K : PySem.W.Frag) (mg : Str → Option Value) (base : Heap) (CX : CXT) (k : Nat) (f : Addr) (fd : FuncData) (ps : List Str) (sp : Sp) : Prop where
  len : ∀ vs H Q E, sp vs H Q E → vs.length = ps.length
  run : ∀ (A : Around) (outer : List Env) (s : Shared) (H : Hp) (args : Args) (us : List Value) (vs : List V) (Q : VK) (E : XK), A.guards = some [] → Room k A → Env0 P w K mg base A outer s H → BindsTo s fd args (ps.zip us) → Vals vs us → sp vs H Q E →
    codeAny (model P w) A (.call (.ref f) args) (CR CX outer P w H s Q E) s
section
variable {P : Program} {w : World} {K : PySem.W.Frag} {mg : Str → Option Value} {base : Heap}
theorem fnG_of {CX : CXT} {k : Nat} {f : Addr} {name qual : Str} {params : Arguments} {body : List Stmt} {scope : Scope} {dV kV doc pm cdv ct oc : Value} {an od : Option Addr}
    {osl : Array (Option Value)} {N ps : List Str} {sp : Sp} (lk : K.lookup f = some ⟨oc, od, .func (PySem.W.fnOf name qual params body scope dV kV doc pm an cdv ct), osl⟩) (hcd : PySem.W.codeIn K cdv qual = true) (S : FnScope N ps scope)
    (len : ∀ vs H Q E, sp vs H Q E → vs.length = ps.length)
    (hbody : ∀ (A : Around) (outer : List Env) (s : Shared) (H : Hp) (vs : List V) (Q : VK) (E : XK), (A.deeper (envOfC qual scope s.heap.objs.size f cdv)).guards = some [] → Room k (A.deeper (envOfC qual scope s.heap.objs.size f cdv)) → sp vs H Q E →
      ∃ t, PSs (cxOf CX P w K mg base N qual scope f cdv A outer s H E) body t ∧ t { nx := fun _ H' => Q .non H', rt := Q } (start N vs) H) :
    FnG P w K mg base CX (k + 1) f (PySem.W.fnOf name qual params body scope dV kV doc pm an cdv ct) ps sp := by
  refine ⟨len, fun A outer s H args us vs Q E hg hr e0 hb r hsp => ?_⟩
  have hl := len _ _ _ _ hsp
  have KX : K.In s.heap := e0.mod.kin.keeps fun b o e => (e0.bs b o e).1
  have lim : s.heap.NoLimit := e0.mod.nolimit.keeps fun b o e => (e0.bs b o e).1
  have hkind : ∀ y ∈ ps.zip us, scope.names.lookup y.1 = some .local ∨ (scope.names.lookup y.1 = some .cell ∧ ((cellsFrom (s.heap.objs.size + 1) scope.names []).lookup y.1).isSome = true) := fun ⟨n, v⟩ hy => by
    rcases S.par n (List.of_mem_zip hy).1 with q | q
    · exact .inl q
    · exact .inr ⟨q, PySem.W.cellsFrom_some _ _ _ (.inl q)⟩
  refine codeAny_call_function hr.depth (KX _ _ lk) rfl S.co S.gen rfl (PySem.W.codeRec_of KX hcd) (hb _ _ _ _ ?_)
  refine wpAny_newFunctionEnv_cells S.kind hkind fun env he s1 x => ?_
  subst he
  refine ⟨lim.keeps x.toInCall.keep, codeAny_func ?_⟩
  obtain ⟨t, ht, hq⟩ := hbody A outer s H vs Q E hg (hr.deeper _) hsp
  have I : Inv (cxOf CX P w K mg base N qual scope f cdv A outer s H E) [] (start N vs) H s1 := inv_start S hr.hd e0 hl r x
  refine wpAny_mono (ht.run [] s1 (start N vs) H _ I hq) (fun fl s' hs => ?_) fun e s' hs => hs
  have fin : ∀ {σ' : L2.St} {H' : Hp} {v : V} {u : Value}, Inv (cxOf CX P w K mg base N qual scope f cdv A outer s H E) [] σ' H' s' → RelV v u → Q v H' → CE outer P w H s Q u s' :=
    fun {σ' H' v u} J rv q => ⟨v, H', J.os, J.bare, J.base, J.hok, rv, q⟩
  cases fl with
  | ret u =>
    obtain ⟨v, σ', H', J, rv, q⟩ := hs
    exact fin J rv q
  | next =>
    obtain ⟨σ', H', J, q⟩ := hs
    exact fin (v := V.non) (u := Value.none) J rfl q
  | brk =>
    obtain ⟨_, _, _, q⟩ := hs
    exact False.elim q
  | cont =>
    obtain ⟨_, _, _, q⟩ := hs
    exact False.elim q
theorem okG {x qual : Str} {st : Stmt} {f : Addr} {fd : FuncData} {N ps : List Str} {k : Nat} {sp : Sp} (F : Fun K x qual st f fd) (S : FnScope N ps (defScope st)) (len : ∀ vs H Q E, sp vs H Q E → vs.length = ps.length)
    (hbody : ∀ (cdv : Value) (A : Around) (outer : List Env) (s : Shared) (H : Hp) (vs : List V) (Q : VK) (E : XK), (A.deeper (envOfC qual (defScope st) s.heap.objs.size f cdv)).guards = some [] → Room k (A.deeper (envOfC qual (defScope st) s.heap.objs.size f cdv)) → sp vs H Q E →
      ∃ t, PSs (cxOf (L2.CX P w) P w K mg base N qual (defScope st) f cdv A outer s H E) (defBody st) t ∧ t { nx := fun _ H' => Q .non H', rt := Q } (start N vs) H) : FnG P w K mg base (L2.CX P w) (k + 1) f fd ps sp := by
  obtain ⟨oc, od, kV, doc, pm, an, cdv, ct, osl, rfl, lk, hcd⟩ := F.ex
  exact fnG_of lk hcd S len fun A outer s H vs Q E hg hr hsp => hbody cdv A outer s H vs Q E hg hr hsp
end
section
variable {X : Cx} {CX : CXT} {k : Nat} {f : Addr} {fd : FuncData} {ps : List Str} {sp : Sp} {dvs : List V} {ds : List Value} {E : XK} {x : Str} {p pos : Pos} {e : Expr} {es : List Expr} {t : TA}
theorem runG_fn {pins : List (Addr × Obj)} {σ : L2.St} {H : Hp} {s : Shared} {Q : VK} {us : List Value} {vs : List V} (hg : X.A.guards = some []) (F : FnG X.prog X.w X.K X.mg X.base CX k f fd ps sp) (hr : Room k X.A) (hb : Binds X.K fd ps ds) (hd : Vals dvs ds) (hx : Passes CX X E)
    (I : Inv X pins σ H s) (r : Vals vs us) (h : sp (vs ++ dvs) H Q E) : wpAny (model X.prog X.w) X.A (call (.ref f) us) (EP X pins σ Q) X.xe s := by
  have r2 : Vals (vs ++ dvs) (us ++ ds) := r.append hd
  have hl : (us ++ ds).length = ps.length := by rw [← r2.length]; exact F.len _ _ _ _ h
  refine wpAny_call (codeAny_mono (F.run X.A X.stack s H ⟨us, []⟩ (us ++ ds) (vs ++ dvs) Q E hg hr I.env0 (hb s us I.kIn hl) r2 h) fun r s' hq => ?_)
  cases r with
  | error e => exact hx pins σ H s e s' I hq
  | ok fl =>
    cases fl with
    | ret u => exact I.after hq
    | next => exact False.elim hq
    | brk => exact False.elim hq
    | cont => exact False.elim hq
theorem pe_callG (hgd : X.A.guards = some []) (F : FnG X.prog X.w X.K X.mg X.base CX k f fd ps sp) (hr : Room k X.A) (hg : Gl X x) (hm : X.mg x = some (.ref f)) (hk : PySem.W.keepIn X.K (.ref f) = true) (hb : Binds X.K fd ps ds) (hd : Vals dvs ds) (hx : Passes CX X E)
    (ha : PA X (e :: es) t) (hdb : (x == ("__debug__" : Str)) = false := by decide) (he : starEach (e :: es) X.env = (false, eval e X.env) :: starEach es X.env := by rfl) (hpl : (backTo pos (starEach es X.env)).any (·.1) = false := by rfl) :
    PE X (.Call (.Name x p) (e :: es) [] pos) (tCall sp dvs E t) := by
  refine ⟨fun pins s σ H Q I h => ?_⟩
  refine wpAny_Call_Name_kw (ld_glob I hg hm ?_ hdb)
  refine PySem.W.callWith_K (h₀ := X.base) I.ok.mod.kin hk (thn (ha.run pos pins s σ H _ I h) fun us s1 ⟨vs, H1, I1, r, q⟩ => ⟨I1.kIn, ?_⟩) he hpl
  exact runG_fn hgd F hr hb hd hx I1 r q
theorem pe_callG0 (hgd : X.A.guards = some []) (F : FnG X.prog X.w X.K X.mg X.base CX k f fd ps sp) (hr : Room k X.A) (hg : Gl X x) (hm : X.mg x = some (.ref f)) (hk : PySem.W.keepIn X.K (.ref f) = true) (hb : Binds X.K fd ps ds) (hd : Vals dvs ds) (hx : Passes CX X E)
    (hdb : (x == ("__debug__" : Str)) = false := by decide) : PE X (.Call (.Name x p) [] [] pos) (tCall sp dvs E tNil) := by
  refine ⟨fun pins s σ H Q I h => ?_⟩
  refine wpAny_Call_Name_kw (ld_glob I hg hm ?_ hdb)
  exact PySem.W.callWith_K0 I.kIn hk (runG_fn (us := []) hgd F hr hb hd hx I .nil h)
/-- data whose repr is told -/
structure Shw (d : PyData) : Prop where
  lay : PyData.canLay0 d = true
  deep : d.depth ≤ 20
  show_ : d.showable = true
  short : d.shown.length ≤ sizeLine
/-- repr of data -/
def rReprD (K : PySem.W.Frag) : List V → Hp → VK → Prop := fun vs H Q => (∃ b, vs = [.bl b] ∧ Q (.str (if b then "True" else "False")) H) ∨ ∃ a d, vs = [.ref a] ∧ Dp K H (.ref a) d ∧ Shw d ∧ Q (.str d.shown) H
theorem cr_reprD (hgd : X.A.guards = some []) (hu : X.A.units + 64 < cLine) : CallR X (.builtin "repr") (rReprD X.K) := by
  intro pins s σ H xs us Q I r h
  rcases h with ⟨b, rfl, q⟩ | ⟨a, d, rfl, hd, sh, q⟩
  · cases r with
    | cons r1 t =>
    cases t
    cases r1
    exact PySem.P.repr_of_bool ⟨.str _, H, I.tok _, ⟨_, rfl⟩, q⟩
  · cases r with
    | cons r1 t =>
    cases t
    cases r1
    obtain ⟨as, rd⟩ := Dp.reads I d (.ref a) (.ref a) hd rfl
    exact repr_of_reads' rd sh.show_ (PyData.noDict_hsm (PyData.hasDict_of_canLay d sh.lay)) hgd (by have := sh.deep; omega) (fun _ _ e => e) (fun h' u tk hk => ⟨.str d.shown, H, I.kept (t' := tk) hk, ⟨u, rfl⟩, q⟩) sh.short
end
end K40
end
section
set_option Elab.async false
set_option linter.all false
set_option autoImplicit false
set_option maxRecDepth 100000
set_option maxHeartbeats 4000000
/-! The law's like. -/
namespace K40
open PySem PySem.Spec PyProof.Rows L2 LamX
def spLike (K : PySem.W.Frag) : Sp := fun vs H Q _ => ((∃ b, vs = [.bl b, .bl b]) ∨ ∃ a c d, vs = [.ref a, .ref c] ∧ Dp K H (.ref a) d ∧ Dp K H (.ref c) d ∧ Shw d) ∧ Q (.bl true) H
section
variable {P : Program} {w : World} {K : PySem.W.Frag} {mg : Str → Option Value} {base : Heap}
theorem scWLike : FnScope ["_law_got", "_law_due"] ["_law_got", "_law_due"] (defScope sWLike) := ⟨rfl, rfl, rfl, by decide +kernel, rfl, by decide +kernel, by decide +kernel⟩
theorem ok_wLike (T : Wd K mg) : FnG P w K mg base (L2.CX P w) 1 T.wLike.f T.wLike.fd ["_law_got", "_law_due"] (spLike K) := by
  refine okG T.wLike.F scWLike (fun vs H Q E h => ?_) (fun cdv A outer s H vs Q E hg hr h => ⟨_, (pss_one (ps_ret (pe_cmpR op_eq (pe_callB (cr_reprD hg (hu64_of hr)) (by rfl) T.nRepr (by decide +kernel) (pa_cons (pv 0) pa_nil)) (pe_callB (cr_reprD hg (hu64_of hr)) (by rfl) T.nRepr (by decide +kernel) (pa_cons (pv 1) pa_nil)) (nomark _)))), ?_⟩)
  · obtain ⟨⟨b, rfl⟩ | ⟨a, c, d, rfl, _⟩, _⟩ := h
    · rfl
    · rfl
  obtain ⟨⟨b, rfl⟩ | ⟨a, c, d, rfl, h1, h2, sh⟩, q⟩ := h
  · refine ⟨_, rfl, .inl ⟨b, rfl, _, rfl, .inl ⟨b, rfl, ?_⟩⟩⟩
    refine ⟨rfl, ?_⟩
    rw [decide_eq_true rfl]
    exact q
  · refine ⟨_, rfl, .inr ⟨a, d, rfl, h1, sh, _, rfl, .inr ⟨c, d, rfl, h2, sh, ?_⟩⟩⟩
    refine ⟨rfl, ?_⟩
    rw [decide_eq_true rfl]
    exact q
end
end K40
end
section
set_option Elab.async false
set_option linter.all false
set_option autoImplicit false
set_option maxRecDepth 100000
/-! The repr of small rows is told. -/
namespace K40
open PySem PySem.Spec PyProof.Rows L2 LamX
theorem int_small : ∀ n : Nat, n < 61 → (PyData.shown (.int (n : Int))).length ≤ 13 ∧ PyData.weight (.int (n : Int)) ≤ 6 ∧ PyData.showable (.int (n : Int)) = true := by decide +kernel
theorem int_small' {x : Int} (h0 : 0 ≤ x) (h1 : x ≤ 60) : PyData.intsShort 13 (.int x) = true ∧ PyData.weight (.int x) ≤ 6 ∧ PyData.showable (.int x) = true := by
  obtain ⟨n, rfl⟩ := Int.eq_ofNat_of_zero_le h0
  obtain ⟨a, b, c⟩ := int_small n (by omega)
  exact ⟨decide_eq_true a, b, c⟩
theorem ints_small : ∀ r : Row, (∀ x ∈ r, 0 ≤ x ∧ x ≤ 60) → PyData.intsShortAll 13 (r.map .int) = true ∧ PyData.weightAll (r.map .int) ≤ 7 * r.length ∧ PyData.showableAll (r.map .int) = true
  | [], _ => ⟨rfl, Nat.le_refl _, rfl⟩
  | x :: xs, h => by
    obtain ⟨a, b, c⟩ := ints_small xs fun y hy => h y (List.mem_cons_of_mem _ hy)
    have hx := h x (by simp)
    obtain ⟨a2, b2, c2⟩ := int_small' hx.1 hx.2
    refine ⟨?_, ?_, ?_⟩
    · simp only [List.map_cons, PyData.intsShortAll, a, a2, Bool.and_self]
    · simp only [List.map_cons, PyData.weightAll, List.length_cons]
      omega
    · simp only [List.map_cons, PyData.showableAll, c, c2, Bool.and_self]
theorem rows_small : ∀ A : List Row, (∀ r ∈ A, r.length ≤ 4 ∧ ∀ x ∈ r, 0 ≤ x ∧ x ≤ 60) → PyData.intsShortAll 13 (A.map rowD) = true ∧ PyData.weightAll (A.map rowD) ≤ 30 * A.length ∧ PyData.showableAll (A.map rowD) = true
  | [], _ => ⟨rfl, Nat.le_refl _, rfl⟩
  | r :: rs, h => by
    obtain ⟨a, b, c⟩ := rows_small rs fun y hy => h y (List.mem_cons_of_mem _ hy)
    obtain ⟨hl, hx⟩ := h r (by simp)
    obtain ⟨a2, b2, c2⟩ := ints_small r hx
    refine ⟨?_, ?_, ?_⟩
    · simp only [List.map_cons, PyData.intsShortAll, a, rowD, PyData.intsShort, a2, Bool.and_self]
    · simp only [List.map_cons, PyData.weightAll, List.length_cons, rowD, PyData.weight]
      omega
    · simp only [List.map_cons, PyData.showableAll, c, rowD, PyData.showable, c2, Bool.and_self]
theorem shw_of {d : PyData} (h1 : d.canLay0 = true) (h2 : d.depth ≤ 20) (h3 : d.showable = true) (h4 : d.weight ≤ 2 ^ 20) (h5 : d.intsShort 13 = true) : Shw d := by
  refine ⟨h1, h2, h3, ?_⟩
  have := shown_le13 (d := d) (by unfold PyData.layable0; rw [h1]; simp; omega) h5
  rw [sizeLine_eq]
  omega
theorem shw_rows {A : List Row} (hl : A.length ≤ 1000) (h : ∀ r ∈ A, r.length ≤ 4 ∧ ∀ x ∈ r, 0 ≤ x ∧ x ≤ 60) : Shw (.tuple (A.map rowD)) := by
  obtain ⟨a, b, c⟩ := rows_small A h
  have d := rows_depth A
  refine shw_of ?_ ?_ ?_ ?_ ?_
  · rw [PyData.canLay0, rows_lay]
  · rw [PyData.depth]
    omega
  · rw [PyData.showable]
    exact c
  · rw [PyData.weight]
    omega
  · rw [PyData.intsShort]
    exact a
end K40
end
section
set_option Elab.async false
set_option linter.all false
set_option autoImplicit false
set_option maxRecDepth 100000
set_option maxHeartbeats 4000000
/-! The law's caught. -/
namespace K40
open PySem PySem.Spec PyProof.Rows L2 LamX
theorem takes_len {X : Cx} {W : WX} (t : Takes X W) : Takes X (fun cls d σ H => σ.length = X.N.length → W cls d σ H) := fun u s' ⟨a, B, sI, pins, σ, H, cls, d, e, I, nb, up, sky, na, os, ag, w⟩ =>
  t u s' ⟨a, B, sI, pins, σ, H, cls, d, e, I, nb, up, sky, na, os, ag, w I.len⟩
/-- what is told of an exception: its name, what it holds -/
def EchC {K : PySem.W.Frag} {mg : Str → Option Value} (T : We K mg) (Q : VK) : XK := fun cls d H' => ∃ (nm fld : Str) (C dd : Addr) (x : V), ((C = T.badUnits.C ∧ nm = "BadUnits" ∧ fld = "value") ∨ (C = T.badPlan.C ∧ nm = "BadPlan" ∧ fld = "path") ∨ (C = T.badRow.C ∧ nm = "BadRow" ∧ fld = "value") ∨ (C = T.tooGreat.C ∧ nm = "TooGreat" ∧ fld = "most")) ∧
  cls = .ref C ∧ d = some dd ∧ H' dd = some (.xd [(fld, x)]) ∧ ∀ l, H' l = none → Q (.ref l) (upd H' l (.lst [.str nm, x]))
def TCaught {K : PySem.W.Frag} {mg : Str → Option Value} (T : We K mg) : (XK → Hp → VK → Prop) → Hp → VK → Prop := fun tl H Q => tl (EchC T Q) H fun v H' => ∀ l, H' l = none → Q (.ref l) (upd H' l (.lst [.str "told", v]))
theorem scWCaught : FnScope ["_law_call", "_law_found", "error"] ["_law_call"] (defScope sWCaught) := ⟨rfl, rfl, rfl, by decide +kernel, rfl, by decide +kernel, by decide +kernel⟩
theorem caught_gives {X : Cx} (T : We X.K X.mg) {g : Addr} {cdg : Value} {q : Str} : GivesTo X ["_law_call", "_law_found", "error"] "_law_caught" (defScope sWCaught) g cdg (defBody sWCaught) "_law_call" q (TCaught T) := by
  intro f c' s H Q tl act hc h
  refine ⟨_, pss_cons (ps_set (i := 1) scWCaught.nd rfl (.inl rfl) pe_non) (pss_cons (ps_try_named (i := 2) (n := "error") (tb := fun W D σ H => ∃ Ech : XK, (∀ cls d σ' H', Ech cls d H' → σ'.length = 3 → W cls d σ' H') ∧
      tAsg (tLst (tCons (tC (.str "told")) (tCons (tMono fun σZ HZ Q => σZ[0]? = some (some (.ref f)) ∧ HZ c' = some (CodeO c' q) ∧ tl Ech HZ Q) tNil))) (gName 1) D σ H)
      rfl rfl scWCaught.nd rfl rfl (fun W pn xe tk _ => ?_)
      (.cons (c := .ref T.badUnits.C) ⟨rfl, by decide, .inl T.badUnits.g⟩ (fun a oe cls d pn hz hf => pss_one (ps_set (i := 1) scWCaught.nd rfl (.inl rfl) (pe_lst (pa_cons pe_str (pa_cons (pe_xf T.badUnits.ex.xf T.badUnits.no hz hf (pv 2)) pa_nil)))))
      (.cons (c := .ref T.badPlan.C) ⟨rfl, by decide, .inl T.badPlan.g⟩ (fun a oe cls d pn hz hf => pss_one (ps_set (i := 1) scWCaught.nd rfl (.inl rfl) (pe_lst (pa_cons pe_str (pa_cons (pe_xf T.badPlan.ex.xf T.badPlan.no hz hf (pv 2)) pa_nil)))))
      (.cons (c := .ref T.badRow.C) ⟨rfl, by decide, .inl T.badRow.g⟩ (fun a oe cls d pn hz hf => pss_one (ps_set (i := 1) scWCaught.nd rfl (.inl rfl) (pe_lst (pa_cons pe_str (pa_cons (pe_xf T.badRow.ex.xf T.badRow.no hz hf (pv 2)) pa_nil)))))
      (.cons (c := .ref T.tooGreat.C) ⟨rfl, by decide, .inl T.tooGreat.g⟩ (fun a oe cls d pn hz hf => pss_one (ps_set (i := 1) scWCaught.nd rfl (.inl rfl) (pe_lst (pa_cons pe_str (pa_cons (pe_xf T.tooGreat.ex.xf T.tooGreat.no hz hf (pv 2)) pa_nil)))))
      .nil))))) (pss_one (ps_ret (pv 1)))), ?_⟩
  · refine ⟨fun pins s' σ H' D I h' => ?_⟩
    obtain ⟨Ech, hW, h1⟩ := h'
    have hp := fun p1 p2 => act (fun cls d σ H => σ.length = 3 → W cls d σ H) pn xe Ech p1 p2 (takes_len tk) hW
    exact (pss_one (ps_set (i := 1) scWCaught.nd rfl (.inl rfl) (pe_lst (pa_cons pe_str (pa_cons (pe_mono (hp _ _)) pa_nil))))).run pins s' σ H' D I h1
  · refine ⟨EchC T Q, ?_, ?_⟩
    · rintro cls d σ' H' ⟨nm, fld, C, dd, x, hC, rfl, rfl, hd, k⟩ hl
      match σ', hl with
      | [x0, x1, x2], _ =>
        rcases hC with ⟨rfl, rfl, rfl⟩ | ⟨rfl, rfl, rfl⟩ | ⟨rfl, rfl, rfl⟩ | ⟨rfl, rfl, rfl⟩
        · refine ⟨true, T.uu, fun _ a na => ?_, fun z => by cases z⟩
          exact ⟨_, rfl, rfl, rfl, dd, _, x, rfl, hd, rfl, by show 2 ≤ sizeLine; decide, fun l nl => ⟨_, rfl, k l nl⟩⟩
        · refine ⟨false, T.pu, (fun z => by cases z), fun _ => ⟨true, T.pp, fun _ a na => ?_, fun z => by cases z⟩⟩
          exact ⟨_, rfl, rfl, rfl, dd, _, x, rfl, hd, rfl, by show 2 ≤ sizeLine; decide, fun l nl => ⟨_, rfl, k l nl⟩⟩
        · refine ⟨false, T.ru, (fun z => by cases z), fun _ => ⟨false, T.rp, (fun z => by cases z), fun _ => ⟨true, T.rr, fun _ a na => ?_, fun z => by cases z⟩⟩⟩
          exact ⟨_, rfl, rfl, rfl, dd, _, x, rfl, hd, rfl, by show 2 ≤ sizeLine; decide, fun l nl => ⟨_, rfl, k l nl⟩⟩
        · refine ⟨false, T.gu, (fun z => by cases z), fun _ => ⟨false, T.gp, (fun z => by cases z), fun _ => ⟨false, T.gr, (fun z => by cases z), fun _ => ⟨true, T.gg, fun _ a na => ?_, fun z => by cases z⟩⟩⟩⟩
          exact ⟨_, rfl, rfl, rfl, dd, _, x, rfl, hd, rfl, by show 2 ≤ sizeLine; decide, fun l nl => ⟨_, rfl, k l nl⟩⟩
    · exact ⟨_, ⟨rfl, hc, h⟩, fun v H' r => ⟨by show 2 ≤ sizeLine; decide, fun l nl => ⟨_, rfl, r l nl⟩⟩⟩
end K40
end
section
set_option Elab.async false
set_option linter.all false
set_option autoImplicit false
set_option maxRecDepth 100000
/-! The mirror by a sort that computes; what it tells of the law's own worlds. -/
namespace K40
open PySem PySem.Spec PyProof.Rows L2
def insR (x : Row) : List Row → List Row
  | [] => [x]
  | y :: ys => if leR x y = true then x :: y :: ys else y :: insR x ys
def isortR : List Row → List Row
  | [] => []
  | x :: xs => insR x (isortR xs)
theorem insR_perm (x : Row) : ∀ L : List Row, (insR x L).Perm (x :: L)
  | [] => .refl _
  | y :: ys => by
    unfold insR
    split
    · exact .refl _
    · exact ((insR_perm x ys).cons y).trans (.swap x y ys)
theorem isortR_perm : ∀ L : List Row, (isortR L).Perm L
  | [] => .refl _
  | x :: xs => (insR_perm x (isortR xs)).trans ((isortR_perm xs).cons x)
theorem insR_asc (x : Row) : ∀ L : List Row, Asc L → Asc (insR x L)
  | [], _ => by unfold insR Asc; simp
  | y :: ys, h => by
    unfold insR
    have h1 : ∀ z ∈ ys, leR y z = true := (List.pairwise_cons.mp h).1
    have h2 : Asc ys := (List.pairwise_cons.mp h).2
    split
    · rename_i c
      refine List.pairwise_cons.mpr ⟨fun z hz => ?_, h⟩
      rcases List.mem_cons.mp hz with e | m
      · rw [e]
        exact c
      · exact leR_trans _ _ _ c (h1 z m)
    · rename_i c
      have c2 : leR y x = true := by
        have := leR_total x y
        rw [Bool.or_eq_true] at this
        exact this.resolve_left c
      refine List.pairwise_cons.mpr ⟨fun z hz => ?_, insR_asc x ys h2⟩
      rcases List.mem_cons.mp ((insR_perm x ys).mem_iff.mp hz) with e | m
      · rw [e]
        exact c2
      · exact h1 z m
theorem isortR_asc : ∀ L : List Row, Asc (isortR L)
  | [] => .nil
  | x :: xs => insR_asc x _ (isortR_asc xs)
theorem leR_anti {a b : Row} (h : leR a b = true) (k : leR b a = true) : a = b := List.le_antisymm (of_decide_eq_true h) (of_decide_eq_true k)
theorem asc_uniq : ∀ {L M : List Row}, Asc L → Asc M → L.Perm M → L = M
  | [], M, _, _, p => (List.Perm.nil_eq p)
  | x :: xs, [], _, _, p => absurd p.length_eq (by simp)
  | x :: xs, y :: ys, h, k, p => by
    have e : x = y := by
      have m1 : x ∈ y :: ys := p.mem_iff.mp (by simp)
      have m2 : y ∈ x :: xs := p.mem_iff.mpr (by simp)
      rcases List.mem_cons.mp m1 with e | m1
      · exact e
      rcases List.mem_cons.mp m2 with e | m2
      · exact e.symm
      exact leR_anti ((List.pairwise_cons.mp h).1 y m2) ((List.pairwise_cons.mp k).1 x m1)
    subst e
    rw [asc_uniq (List.pairwise_cons.mp h).2 (List.pairwise_cons.mp k).2 (p.cons_inv)]
theorem sortR_isort (L : List Row) : sortR L = isortR L := asc_uniq (sortR_asc L) (isortR_asc L) ((sortR_perm L).trans (isortR_perm L).symm)
def keptI (ss : List Row) : Option (List Row) := keptGo [] (isortR (dedupR ss))
theorem kept_I (ss : List Row) : kept ss = keptI ss := by
  unfold kept unlike keptI
  rw [sortR_isort]
def greatI (ss : List Row) : List Row := (isortR (dedupR ss)).reverse.foldl greatStep []
theorem great_I (ss : List Row) : greatest ss = greatI ss := by
  unfold greatest unlike greatI
  rw [sortR_isort]
def leastI (us : List Int) : Plan → Option (List Row)
  | .fin => some [List.replicate (us.length + 1) 0]
  | .ask r p => (leastI us p).bind fun inner => keptI (inner.map fun o => zadd (stair us r) o)
  | .bring r p => (leastI us p).bind fun inner => keptI (inner.map fun o => up us (zsub o (stair us r)))
  | .either a b => (leastI us a).bind fun f => (leastI us b).bind fun s => keptI (pairs f s)
  | .ours a b => (leastI us a).bind fun f => (leastI us b).bind fun s => keptI (f ++ s)
theorem least_I (us : List Int) : ∀ p : Plan, least us p = leastI us p
  | .fin => rfl
  | .ask r p => by simp only [least, leastI, least_I us p, kept_I]
  | .bring r p => by simp only [least, leastI, least_I us p, kept_I]
  | .either a b => by simp only [least, leastI, least_I us a, least_I us b, kept_I]
  | .ours a b => by simp only [least, leastI, least_I us a, least_I us b, kept_I]
def lacksI (us : List Int) (p : Plan) (s : Row) : Option (List Row) := (leastI us p).bind fun L => (keptI (L.map fun o => up us (zsub o (stair us s)))).map fun Z => isortR (Z.map (row us))
def askedI (us : List Int) (p : Plan) (s : Row) : Option (List Row) := (leastI us p).map fun L => isortR ((greatI ((L.filter fun o => within o (stair us s)).map fun o => goD us (zsub (stair us s) o))).map (row us))
theorem lacks_I (us : List Int) (p : Plan) (s : Row) : lacksM us p s = lacksI us p s := by
  unfold lacksM lacksI
  rw [least_I]
  have e : rowsOf us = fun Z => isortR (Z.map (row us)) := funext fun Z => sortR_isort _
  simp only [kept_I, e]
theorem asked_I (us : List Int) (p : Plan) (s : Row) : askedM us p s = askedI us p s := by
  unfold askedM askedI
  rw [least_I]
  have e : rowsOf us = fun Z => isortR (Z.map (row us)) := funext fun Z => sortR_isort _
  simp only [great_I, e]
def firstR : List Row := [[0, 100, 0, 0], [1, 97, 0, 0], [2, 94, 0, 0], [3, 91, 0, 0], [4, 88, 0, 0], [5, 85, 0, 0]]
def secondR : List Row := [[0, 0, 2000, 16000], [0, 0, 2001, 15997], [0, 0, 2002, 15994], [0, 0, 2003, 15991], [0, 0, 2004, 15988], [0, 0, 2005, 15985], [0, 0, 2006, 15982]]
def greatP : Plan := .either (chosenM firstR) (chosenM secondR)
def twoP : Plan := .ours (.ask [1, 0] .fin) (.ask [0, 3] .fin)
def wideP : Plan := .ours (.ask [1, 0] .fin) (.ask [0, 5] .fin)
theorem great_none : leastI [2, 2, 2] greatP = none := by decide +kernel
theorem great_lacks (s : Row) : lacksM [2, 2, 2] greatP s = none := by
  rw [lacks_I]
  unfold lacksI
  rw [great_none]
  rfl
theorem great_asked (s : Row) : askedM [2, 2, 2] greatP s = none := by
  rw [asked_I]
  unfold askedI
  rw [great_none]
  rfl
theorem two_a : askedM [2] twoP [1, 2] = some [[0, 2]] := by rw [asked_I]; decide +kernel
theorem two_b : lacksM [2] twoP [0, 1] = some [[0, 2]] := by rw [lacks_I]; decide +kernel
theorem two_c : askedM [2] twoP [0, 1] = some [] := by rw [asked_I]; decide +kernel
theorem two_d : lacksM [2] twoP [0, 0] = some [[0, 3], [1, 0]] := by rw [lacks_I]; decide +kernel
theorem wide_a : askedM [2] wideP [1, 5] = some [[0, 5], [1, 0]] := by rw [asked_I]; decide +kernel
end K40
end
section
set_option Elab.async false
set_option linter.all false
set_option autoImplicit false
set_option maxRecDepth 100000
set_option maxHeartbeats 4000000
/-! The law's refused_right. -/
namespace K40
open PySem PySem.Spec PyProof.Rows L2 LamX
def spRefused (TT : List (Addr × Str)) : Sp := fun vs H Q _ => vs = [] ∧ Tabs TT H ∧ ∀ H', Gr TT [] H H' → Q (.bl true) H'
/-- a comprehension over range(n): rows -/
theorem lcK {n : Nat} {H1 : Hp} {σ : L2.St} {i : Nat} {vsl : List Nat} {j : Int} {te : TE} {Q : VK} (f : Nat → Row) (ej : j = n) (hz : n ≤ 1000)
    (hw : ∀ x : V, wipe ((wipe σ [i]).set i (some x)) [i] = wipe σ [i]) (hv : vsl = [i])
    (hte : ∀ k H' (R : VK), k < n → Same H1 H' → (∀ H3 v', Same H' H3 → TI H3 v' (f k) → R v' H3) → te ((wipe σ [i]).set i (some (.int (k : Nat)))) H' R)
    (h : ∀ D H' vs', Same H1 H' → H' D = some (.lst vs') → Rws H' vs' ((List.range n).map f) → Q (.ref D) H') :
    tLc (iRng1 (tCons (tC (.int j)) tNil)) (gName i) tYes te vsl σ H1 Q := by
  subst hv ej
  refine ⟨_, rfl, by omega, by omega, fun D hD => ?_⟩
  rw [Int.toNat_natCast]
  refine lc_it walk_range (fun k H' => Same H1 H' ∧ ∃ acc, H' D = some (.lst acc) ∧ Rws H' acc ((List.range k).map f)) ⟨same_upd (Same.refl H1) hD, [], upd_same, .nil⟩ (fun _ _ _ _ => trivial) ?_ ?_
  · rintro k v H2 H' hk ⟨s2, acc, hd, ha⟩ ⟨rfl, rfl⟩
    have z : (0 : Int) + (k : Nat) = (k : Nat) := by omega
    show gName i (.int (0 + (k : Nat))) _ _ _
    rw [z]
    refine ⟨hw _, ?_⟩
    dsimp only [tYes]
    refine iteT (hte k _ _ hk s2 fun H4 v' s4 t4 => ?_)
    have hd4 := s4 _ _ hd
    refine ⟨acc, hd4, ?_, same_upd (s2.trans s4) hD, _, upd_same, ?_⟩
    · rw [paired_length ha, List.length_map, List.length_range]
      exact size_small (by omega)
    · rw [List.range_succ, List.map_append]
      exact Paired.app ((ha.same s4).upd_lst hd4) (.cons (t4.upd_lst hd4) .nil)
  · rintro H2 ⟨s2, acc, hd, ha⟩
    exact h D H2 acc s2 hd ha
/-- a world of the law: units, plan, stock, what is due -/
def WorldOk (H : Hp) (x1 x2 x3 x4 : V) : Prop := ∃ du y, x4 = .ref du ∧
  ((TI H x1 [5, 5, 5, 5] ∧ H du = some (.lst [.str "BadUnits", y]) ∧ TI H y [5, 5, 5, 5]) ∨
   (TI H x1 [2, 2, 2] ∧ (∃ a x, x2 = .ref a ∧ H a = some (.tup [.str "end", x]) ∧ Plan.fin.At H x) ∧ H du = some (.lst [.str "BadPlan", y]) ∧ TI H y []) ∨
   (TI H x1 [2, 2, 2] ∧ greatP.At H x2 ∧ TI H x3 [0, 0, 0] ∧ H du = some (.lst [.str "BadRow", y]) ∧ TI H y [0, 0, 0]) ∨
   (TI H x1 [2, 2, 2] ∧ greatP.At H x2 ∧ TI H x3 [9, 9, 9, 9] ∧ H du = some (.lst [.str "TooGreat", y]) ∧ y = .int 40))
theorem WorldOk.gr {TT : List (Addr × Str)} {H H' : Hp} {x1 x2 x3 x4 : V} (h : WorldOk H x1 x2 x3 x4) (g : Gr TT [] H H') : WorldOk H' x1 x2 x3 x4 := by
  obtain ⟨du, y, rfl, h⟩ := h
  have t := TupsStay.gr g
  refine ⟨du, y, rfl, ?_⟩
  rcases h with ⟨h1, h2, h3⟩ | ⟨h1, ⟨a, x, h2, h3, h4⟩, h5, h6⟩ | ⟨h1, h2, h3, h4, h5⟩ | ⟨h1, h2, h3, h4, h5⟩
  · exact .inl ⟨h1.mono t, g.lst h2, h3.mono t⟩
  · exact .inr (.inl ⟨h1.mono t, ⟨a, x, h2, t _ _ h3, h4.mono t⟩, g.lst h5, h6.mono t⟩)
  · exact .inr (.inr (.inl ⟨h1.mono t, h2.mono t, h3.mono t, g.lst h4, h5.mono t⟩))
  · exact .inr (.inr (.inr ⟨h1.mono t, h2.mono t, h3.mono t, g.lst h4, h5⟩))
theorem WorldOk.sb {F : Addr} {H H' : Hp} {x1 x2 x3 x4 : V} (h : WorldOk H x1 x2 x3 x4) (g : Sb F H H') (nt : ∀ xs, H F ≠ some (.tup xs)) (nd : x4 ≠ .ref F) : WorldOk H' x1 x2 x3 x4 := by
  obtain ⟨du, y, rfl, h⟩ := h
  have t := g.tups nt
  have nd2 : du ≠ F := fun z => nd (by rw [z])
  refine ⟨du, y, rfl, ?_⟩
  rcases h with ⟨h1, h2, h3⟩ | ⟨h1, ⟨a, x, h2, h3, h4⟩, h5, h6⟩ | ⟨h1, h2, h3, h4, h5⟩ | ⟨h1, h2, h3, h4, h5⟩
  · exact .inl ⟨h1.mono t, g _ _ nd2 h2, h3.mono t⟩
  · exact .inr (.inl ⟨h1.mono t, ⟨a, x, h2, t _ _ h3, h4.mono t⟩, g _ _ nd2 h5, h6.mono t⟩)
  · exact .inr (.inr (.inl ⟨h1.mono t, h2.mono t, h3.mono t, g _ _ nd2 h4, h5.mono t⟩))
  · exact .inr (.inr (.inr ⟨h1.mono t, h2.mono t, h3.mono t, g _ _ nd2 h4, h5⟩))
theorem shw1 : Shw (.list [.str "BadUnits", rowD [5, 5, 5, 5]]) := shw_of (by decide +kernel) (by decide +kernel) (by decide +kernel) (by decide +kernel) (by decide +kernel)
theorem shw2 : Shw (.list [.str "BadPlan", rowD []]) := shw_of (by decide +kernel) (by decide +kernel) (by decide +kernel) (by decide +kernel) (by decide +kernel)
theorem shw3 : Shw (.list [.str "BadRow", rowD [0, 0, 0]]) := shw_of (by decide +kernel) (by decide +kernel) (by decide +kernel) (by decide +kernel) (by decide +kernel)
theorem shw4 : Shw (.list [.str "TooGreat", .int 40]) := shw_of (by decide +kernel) (by decide +kernel) (by decide +kernel) (by decide +kernel) (by decide +kernel)
theorem uo222 : UOk [2, 2, 2] := ⟨by decide, by decide, by decide⟩
theorem uo2 : UOk [2] := ⟨by decide, by decide, by decide⟩
theorem chosen_ok (n : Nat) (m : Int) : ∀ rs : List Row, (∀ r ∈ rs, r.length = n ∧ ∀ x ∈ r, 0 ≤ x ∧ x ≤ m) → (chosenM rs).Ok n m
  | [], _ => by unfold chosenM Plan.Ok; trivial
  | [r], h => ⟨h r (by simp), by unfold Plan.Ok; trivial⟩
  | r :: s :: rs, h => ⟨⟨h r (by simp), by unfold Plan.Ok; trivial⟩, chosen_ok n m (s :: rs) fun x hx => h x (List.mem_cons_of_mem _ hx)⟩
theorem great_good : GoodP [2, 2, 2] greatP := by
  refine ⟨uo222, ⟨chosen_ok _ _ _ ?_, chosen_ok _ _ _ ?_⟩, by decide, by decide⟩
  · have h : ∀ r ∈ firstR, r.length = 4 ∧ ∀ x ∈ r, 0 ≤ x ∧ x ≤ 100000 := by decide
    exact fun r hr => ⟨(h r hr).1, fun x hx => ⟨((h r hr).2 x hx).1, Int.le_trans ((h r hr).2 x hx).2 (by decide)⟩⟩
  · have h : ∀ r ∈ secondR, r.length = 4 ∧ ∀ x ∈ r, 0 ≤ x ∧ x ≤ 100000 := by decide
    exact fun r hr => ⟨(h r hr).1, fun x hx => ⟨((h r hr).2 x hx).1, Int.le_trans ((h r hr).2 x hx).2 (by decide)⟩⟩
theorem two_good : GoodP [2] twoP := ⟨uo2, ⟨⟨⟨rfl, by intro x hx; simp at hx; rcases hx with rfl | rfl <;> exact ⟨by decide, by decide⟩⟩, by unfold Plan.Ok; trivial⟩, ⟨⟨rfl, by intro x hx; simp at hx; rcases hx with rfl | rfl <;> exact ⟨by decide, by decide⟩⟩, by unfold Plan.Ok; trivial⟩⟩, by decide, by decide⟩
theorem wide_good : GoodP [2] wideP := ⟨uo2, ⟨⟨⟨rfl, by intro x hx; simp at hx; rcases hx with rfl | rfl <;> exact ⟨by decide, by decide⟩⟩, by unfold Plan.Ok; trivial⟩, ⟨⟨rfl, by intro x hx; simp at hx; rcases hx with rfl | rfl <;> exact ⟨by decide, by decide⟩⟩, by unfold Plan.Ok; trivial⟩⟩, by decide, by decide⟩
theorem goodR2 {a b : Int} (ha : 0 ≤ a) (hb : 0 ≤ b) (ha2 : a ≤ 1000) (hb2 : b ≤ 1000) : GoodR [2] [a, b] := ⟨rfl, by
  have big : (1000 : Int) ≤ 10 ^ 60 := by decide
  intro x hx
  simp at hx
  rcases hx with rfl | rfl
  · exact ⟨ha, by omega⟩
  · exact ⟨hb, by omega⟩⟩
theorem shw5 : Shw (.list [.tuple ([[0, 2]].map rowD), .tuple ([[0, 2]].map rowD), .tuple (([] : List Row).map rowD), .tuple ([[0, 3], [1, 0]].map rowD)]) := shw_of (by decide +kernel) (by decide +kernel) (by decide +kernel) (by decide +kernel) (by decide +kernel)
theorem shw6 : Shw (.tuple ([[0, 5], [1, 0]].map rowD)) := shw_of (by decide +kernel) (by decide +kernel) (by decide +kernel) (by decide +kernel) (by decide +kernel)
theorem tr_two {H : Hp} {a b c : Addr} {x y : Row} (ha : H a = some (.tup [.ref b, .ref c])) (hb : H b = some (.tup (x.map V.int))) (hc : H c = some (.tup (y.map V.int))) : TR H (.ref a) [x, y] := ⟨a, _, rfl, ha, .cons ⟨b, rfl, hb⟩ (.cons ⟨c, rfl, hc⟩ .nil)⟩
theorem tr_one {H : Hp} {a b : Addr} {x : Row} (ha : H a = some (.tup [.ref b])) (hb : H b = some (.tup (x.map V.int))) : TR H (.ref a) [x] := ⟨a, _, rfl, ha, .cons ⟨b, rfl, hb⟩ .nil⟩
/-- what is told is what is due -/
theorem world_told {K : PySem.W.Frag} {mg : Str → Option Value} (T : Wt K mg) {M : List Int → Plan → Row → Option (List Row)} {H : Hp} {x1 x2 x3 x4 : V} {Q : VK} (hM : M [2, 2, 2] greatP [9, 9, 9, 9] = none) (tabs : Tabs (T0 T) H) (wo : WorldOk H x1 x2 x3 x4)
    (k : ∀ H' l c d, Gr (T0 T) [] H H' → x4 = .ref c → Dp K H' (.ref l) d → Dp K H' (.ref c) d → Shw d → Q (.ref l) H') :
    TCaught T.toWe (fun E H' Q' => spTwo M (T0 T) T.badUnits.C T.badPlan.C T.badRow.C T.tooGreat.C [x1, x2, x3] H' Q' E) H Q := by
  obtain ⟨du, y, rfl, h⟩ := id wo
  rcases h with ⟨h1, h2, h3⟩ | ⟨h1, ⟨a, x, rfl, h3, h4⟩, h5, h6⟩ | ⟨h1, h2, h3, h4, h5⟩ | ⟨h1, h2, h3, h4, rfl⟩
  · refine ⟨x1, x2, x3, rfl, tabs, _, h1, .inl ⟨by decide, by decide, fun H' d g hd => ⟨"BadUnits", "value", _, d, x1, .inl ⟨rfl, rfl, rfl⟩, rfl, rfl, hd, fun l nl => ?_⟩⟩⟩
    have s := same_new nl (.lst [.str "BadUnits", x1])
    have t := TupsStay.gr g
    exact k _ l du _ (g.trans (.of s)) rfl (.lst (SqL.of upd_same) (.cons (.str _) (.cons ((h1.mono t).same s).dp .nil))) (.lst (SqL.of (s _ _ (g.lst h2))) (.cons (.str _) (.cons ((h3.mono t).same s).dp .nil))) shw1
  · refine ⟨x1, .ref a, x3, rfl, tabs, _, h1, .inr (.inl ⟨uo222, a, x, rfl, h3, h4, fun H' d tt g hd htt => ⟨"BadPlan", "path", _, d, .ref tt, .inr (.inl ⟨rfl, rfl, rfl⟩), rfl, rfl, hd, fun l nl => ?_⟩⟩)⟩
    have s := same_new nl (.lst [.str "BadPlan", .ref tt])
    have t := TupsStay.gr g
    have ht : TI H' (.ref tt) [] := ⟨tt, rfl, htt⟩
    exact k _ l du _ (g.trans (.of s)) rfl (.lst (SqL.of upd_same) (.cons (.str _) (.cons (ht.same s).dp .nil))) (.lst (SqL.of (s _ _ (g.lst h5))) (.cons (.str _) (.cons ((h6.mono t).same s).dp .nil))) shw2
  · refine ⟨x1, x2, x3, rfl, tabs, _, h1, .inr (.inr ⟨greatP, [0, 0, 0], h2, h3, great_good, .inl ⟨by decide, fun H' d g hd => ⟨"BadRow", "value", _, d, x3, .inr (.inr (.inl ⟨rfl, rfl, rfl⟩)), rfl, rfl, hd, fun l nl => ?_⟩⟩⟩)⟩
    have s := same_new nl (.lst [.str "BadRow", x3])
    have t := TupsStay.gr g
    exact k _ l du _ (g.trans (.of s)) rfl (.lst (SqL.of upd_same) (.cons (.str _) (.cons ((h3.mono t).same s).dp .nil))) (.lst (SqL.of (s _ _ (g.lst h4))) (.cons (.str _) (.cons ((h5.mono t).same s).dp .nil))) shw3
  · refine ⟨x1, x2, x3, rfl, tabs, _, h1, .inr (.inr ⟨greatP, [9, 9, 9, 9], h2, h3, great_good, .inr ⟨⟨by decide, ?_⟩, (fun R e => by rw [hM] at e; cases e), fun _ H' d g hd => ⟨"TooGreat", "most", _, d, .int 40, .inr (.inr (.inr ⟨rfl, rfl, rfl⟩)), rfl, rfl, hd, fun l nl => ?_⟩⟩⟩)⟩
    · intro x hx
      simp at hx
      subst hx
      exact ⟨by decide, by decide⟩
    have s := same_new nl (.lst [.str "TooGreat", .int 40])
    exact k _ l du _ (g.trans (.of s)) rfl (.lst (SqL.of upd_same) (.cons (.str _) (.cons (.int _) .nil))) (.lst (SqL.of (s _ _ (g.lst h4))) (.cons (.str _) (.cons (.int _) .nil))) shw4
section
variable {P : Program} {w : World} {K : PySem.W.Frag} {mg : Str → Option Value} {base : Heap}
theorem scWRefusedRight : FnScope ["_law_end", "_law_first", "_law_great", "_law_worlds", "_law_due", "_law_asked", "_law_told", "_law_got", "_law_wide", "_law_plan_so", "_law_stock", "_law_units_so", "_law_k"] [] (defScope sWRefusedRight) := ⟨rfl, rfl, rfl, by decide +kernel, rfl, by decide +kernel, by decide +kernel⟩
theorem ok_wRefusedRight (T : Wt K mg) (TB : TabB base mg T.cN T.pN) (TBR : TabB base mg T.cR T.pR) : FnG P w K mg base (L2.CX P w) 25 T.wRefusedRight.f T.wRefusedRight.fd [] (spRefused (T0 T)) := by
  have GStillAsked := ok_stillAsked (P := P) (w := w) T TB
  have GPlanLacks := ok_planLacks (P := P) (w := w) T TB
  have GWLike := ok_wLike (P := P) (w := w) (base := base) T.toWd
  have GWChosen := ok_wChosen (P := P) (w := w) (base := base) T.toWd
  obtain ⟨oc, od, kV, doc, pmv, an, cdv, ct, osl, efd, lk, hcd⟩ := T.wRefusedRight.F.ex
  have hcdv : cdv = .ref T.cR := by
    have e := T.codeR
    rw [efd] at e
    exact e
  obtain ⟨ocC, odC, kVC, docC, pmvC, anC, cdvC, ctC, oslC, efdC, lkC, hcC⟩ := T.wCaught.F.ex
  have bC := T.wCaught.b
  rw [efdC] at bC lkC
  have hmT : (T.pR, ("_law_refused_right.<locals>.<lambda>" : Str)) ∈ T0 T := List.mem_cons_of_mem _ (List.mem_cons_self ..)
  have huT : ∀ q ∈ T0 T, q.1 = T.pR → q.2 = "_law_refused_right.<locals>.<lambda>" := fun q hq e => by
    have hq' : q ∈ [(T.pN, ("need_plan.<locals>.<lambda>" : Str)), (T.pR, "_law_refused_right.<locals>.<lambda>")] := hq
    simp only [List.mem_cons, List.not_mem_nil, or_false] at hq'
    rcases hq' with rfl | rfl
    · exact absurd e T.ne
    · rfl
  rw [efd] at lk ⊢
  refine fnG_of lk hcd scWRefusedRight (fun vs H Q E h => ?_) (fun A outer s H vs Q E hg hr h => ⟨_, (pss_cons (ps_set (i := 0) scWRefusedRight.nd rfl (.inl rfl) (pe_tup (pa_cons pe_str pa_nil)))
 (pss_cons (ps_setLc (i := 1) (g := (gName 12)) (own := [("_law_k", 12)]) rfl scWRefusedRight.nd rfl rfl (sw_true rfl rfl rfl (by decide +kernel)) (pi_range1 rfl T.nRange (pa_cons pe_int pa_nil)) (blkOk_by (N := ["_law_end", "_law_first", "_law_great", "_law_worlds", "_law_due", "_law_asked", "_law_told", "_law_got", "_law_wide", "_law_plan_so", "_law_stock", "_law_units_so", "_law_k"]) (sc := defScope sWRefusedRight) (by decide +kernel)) (fun _ _ _ _ _ => (pg_name (i := 12) scWRefusedRight.nd rfl (.inl rfl))) (fun _ _ _ _ _ => pts_nil) (fun _ _ _ _ _ => (pe_tup (pa_cons (pv 12) (pa_cons (pe_op op_sub pe_int (pe_op op_mul pe_int (pv 12))) (pa_cons pe_int (pa_cons pe_int pa_nil)))))))
 (pss_cons (ps_set (i := 2) scWRefusedRight.nd rfl (.inl rfl) (pe_tup (pa_cons pe_str (pa_cons (pe_call GWChosen (hr.mono (by first | decide | omega)) rfl T.wChosen.g T.wChosen.F.kp T.wChosen.b .nil pass0 (pa_cons (pv 1) pa_nil)) (pa_cons (pe_call GWChosen (hr.mono (by first | decide | omega)) rfl T.wChosen.g T.wChosen.F.kp T.wChosen.b .nil pass0 (pa_cons (pe_lc (g := (gName 12)) (own := [("_law_k", 12)]) rfl scWRefusedRight.nd  (pi_range1 rfl T.nRange (pa_cons pe_int pa_nil)) (blkOk_by (N := ["_law_end", "_law_first", "_law_great", "_law_worlds", "_law_due", "_law_asked", "_law_told", "_law_got", "_law_wide", "_law_plan_so", "_law_stock", "_law_units_so", "_law_k"]) (sc := defScope sWRefusedRight) (by decide +kernel)) (fun _ _ _ _ _ => (pg_name (i := 12) scWRefusedRight.nd rfl (.inl rfl))) (fun _ _ _ _ _ => pts_nil) (fun _ _ _ _ _ => (pe_tup (pa_cons pe_int (pa_cons pe_int (pa_cons (pe_op op_add pe_int (pv 12)) (pa_cons (pe_op op_sub pe_int (pe_op op_mul pe_int (pv 12))) pa_nil))))))) pa_nil)) pa_nil)))))
 (pss_cons (ps_set (i := 3) scWRefusedRight.nd rfl (.inl rfl) (pe_lst (pa_cons (pe_tup (pa_cons (pe_op op_repA (pe_tup (pa_cons pe_int pa_nil)) pe_int) (pa_cons pe_non (pa_cons pe_non (pa_cons (pe_lst (pa_cons pe_str (pa_cons (pe_op op_repA (pe_tup (pa_cons pe_int pa_nil)) pe_int) pa_nil))) pa_nil))))) (pa_cons (pe_tup (pa_cons (pe_tup (pa_cons pe_int (pa_cons pe_int (pa_cons pe_int pa_nil)))) (pa_cons (pe_tup (pa_cons pe_str (pa_cons (pv 0) pa_nil))) (pa_cons pe_non (pa_cons (pe_lst (pa_cons pe_str (pa_cons (pe_tup pa_nil) pa_nil))) pa_nil))))) pa_nil))))
 (pss_cons (ps_expr (pe_bm PySem.F.plainAttrs_list PySem.F.slot_list_append PySem.F.type_list_append mt_append (pv 3) (pa_cons (pe_tup (pa_cons (pe_tup (pa_cons pe_int (pa_cons pe_int (pa_cons pe_int pa_nil)))) (pa_cons (pv 2) (pa_cons (pe_tup (pa_cons pe_int (pa_cons pe_int (pa_cons pe_int pa_nil)))) (pa_cons (pe_lst (pa_cons pe_str (pa_cons (pe_tup (pa_cons pe_int (pa_cons pe_int (pa_cons pe_int pa_nil)))) pa_nil))) pa_nil))))) pa_nil)))
 (pss_cons (ps_expr (pe_bm PySem.F.plainAttrs_list PySem.F.slot_list_append PySem.F.type_list_append mt_append (pv 3) (pa_cons (pe_tup (pa_cons (pe_tup (pa_cons pe_int (pa_cons pe_int (pa_cons pe_int pa_nil)))) (pa_cons (pv 2) (pa_cons (pe_tup (pa_cons pe_int (pa_cons pe_int (pa_cons pe_int (pa_cons pe_int pa_nil))))) (pa_cons (pe_lst (pa_cons pe_str (pa_cons pe_int pa_nil))) pa_nil))))) pa_nil)))
 (pss_cons (ps_for (passes_of rfl) rfl (pi_list (pv 3)) (pg_tup rfl (pgs_cons (pg_name (i := 11) scWRefusedRight.nd rfl (.inr rfl)) (pgs_cons (pg_name (i := 9) scWRefusedRight.nd rfl (.inr rfl)) (pgs_cons (pg_name (i := 10) scWRefusedRight.nd rfl (.inr rfl)) (pgs_cons (pg_name (i := 4) scWRefusedRight.nd rfl (.inl rfl)) pgs_nil))))) (pss_one (ps_for (passes_of rfl) rfl (pi_list (pe_lst (pa_cons pe_bl (pa_cons pe_bl pa_nil)))) (pg_name (i := 5) scWRefusedRight.nd rfl (.inl rfl)) (pss_cons (ps_set (i := 6) scWRefusedRight.nd rfl (.inl rfl) (pe_lamcall (T := T0 T) (TT := TCaught T.toWe) (k := 22) (t := fun E => tCall (spTwo askedM (T0 T) T.badUnits.C T.badPlan.C T.badRow.C T.tooGreat.C) [] E (tCons (tVar 11) (tCons (tVar 9) (tCons (tVar 10) tNil)))) rfl T.wCaught.g T.wCaught.F.kp lkC hcC bC scWCaught rfl (.inl rfl) (caught_gives (X := cxOf (L2.CX P w) P w K mg base _ "_law_refused_right" (defScope sWRefusedRight) T.wRefusedRight.f cdv A outer s H E) T.toWe) TBR hcdv hmT huT hr (lamS_by (by show lamSB (defScope sWRefusedRight) _ = true; decide +kernel)) rfl (fun _ _ _ _ _ => rfl) (fun A outer s H E f c' hr2 => pe_call GStillAsked (hr2.mono (by decide)) rfl T.stillAsked.g T.stillAsked.F.kp T.stillAsked.b .nil (passes_call (takes_of rfl rfl rfl rfl) (fun _ _ _ _ z => z)) (pa_cons (pv 11) (pa_cons (pv 9) (pa_cons (pv 10) pa_nil))))))
 (pss_cons (ps_if (pt_not (pt_val (pv 5))) (pss_one (ps_set (i := 6) scWRefusedRight.nd rfl (.inl rfl) (pe_lamcall (T := T0 T) (TT := TCaught T.toWe) (k := 22) (t := fun E => tCall (spTwo lacksM (T0 T) T.badUnits.C T.badPlan.C T.badRow.C T.tooGreat.C) [] E (tCons (tVar 11) (tCons (tVar 9) (tCons (tVar 10) tNil)))) rfl T.wCaught.g T.wCaught.F.kp lkC hcC bC scWCaught rfl (.inl rfl) (caught_gives (X := cxOf (L2.CX P w) P w K mg base _ "_law_refused_right" (defScope sWRefusedRight) T.wRefusedRight.f cdv A outer s H E) T.toWe) TBR hcdv hmT huT hr (lamS_by (by show lamSB (defScope sWRefusedRight) _ = true; decide +kernel)) rfl (fun _ _ _ _ _ => rfl) (fun A outer s H E f c' hr2 => pe_call GPlanLacks (hr2.mono (by decide)) rfl T.planLacks.g T.planLacks.F.kp T.planLacks.b .nil (passes_call (takes_of rfl rfl rfl rfl) (fun _ _ _ _ z => z)) (pa_cons (pv 11) (pa_cons (pv 9) (pa_cons (pv 10) pa_nil))))))) pss_nil)
 (pss_one (ps_if (pt_not (pt_val (pe_callG hg GWLike (hr.mono (by first | decide | omega)) rfl T.wLike.g T.wLike.F.kp T.wLike.b .nil passL (pa_cons (pv 6) (pa_cons (pv 4) pa_nil))))) (pss_one (ps_ret pe_bl)) pss_nil)))))))
 (pss_cons (ps_set (i := 9) scWRefusedRight.nd rfl (.inr rfl) (pe_tup (pa_cons pe_str (pa_cons (pe_tup (pa_cons pe_str (pa_cons (pe_tup (pa_cons pe_int (pa_cons pe_int pa_nil))) (pa_cons (pv 0) pa_nil)))) (pa_cons (pe_tup (pa_cons pe_str (pa_cons (pe_tup (pa_cons pe_int (pa_cons pe_int pa_nil))) (pa_cons (pv 0) pa_nil)))) pa_nil)))))
 (pss_cons (ps_set (i := 7) scWRefusedRight.nd rfl (.inl rfl) (pe_lst (pa_cons (pe_call GStillAsked (hr.mono (by first | decide | omega)) rfl T.stillAsked.g T.stillAsked.F.kp T.stillAsked.b .nil (passes_call (takes_of rfl rfl rfl rfl) (fun _ _ _ _ z => z)) (pa_cons (pe_tup (pa_cons pe_int pa_nil)) (pa_cons (pv 9) (pa_cons (pe_tup (pa_cons pe_int (pa_cons pe_int pa_nil))) pa_nil)))) (pa_cons (pe_call GPlanLacks (hr.mono (by first | decide | omega)) rfl T.planLacks.g T.planLacks.F.kp T.planLacks.b .nil (passes_call (takes_of rfl rfl rfl rfl) (fun _ _ _ _ z => z)) (pa_cons (pe_tup (pa_cons pe_int pa_nil)) (pa_cons (pv 9) (pa_cons (pe_tup (pa_cons pe_int (pa_cons pe_int pa_nil))) pa_nil)))) (pa_cons (pe_call GStillAsked (hr.mono (by first | decide | omega)) rfl T.stillAsked.g T.stillAsked.F.kp T.stillAsked.b .nil (passes_call (takes_of rfl rfl rfl rfl) (fun _ _ _ _ z => z)) (pa_cons (pe_tup (pa_cons pe_int pa_nil)) (pa_cons (pv 9) (pa_cons (pe_tup (pa_cons pe_int (pa_cons pe_int pa_nil))) pa_nil)))) pa_nil)))))
 (pss_cons (ps_if (pt_not (pt_val (pe_callG hg GWLike (hr.mono (by first | decide | omega)) rfl T.wLike.g T.wLike.F.kp T.wLike.b .nil passL (pa_cons (pe_op op_cat (pv 7) (pe_lst (pa_cons (pe_call GPlanLacks (hr.mono (by first | decide | omega)) rfl T.planLacks.g T.planLacks.F.kp T.planLacks.b .nil (passes_call (takes_of rfl rfl rfl rfl) (fun _ _ _ _ z => z)) (pa_cons (pe_tup (pa_cons pe_int pa_nil)) (pa_cons (pv 9) (pa_cons (pe_tup (pa_cons pe_int (pa_cons pe_int pa_nil))) pa_nil)))) pa_nil))) (pa_cons (pe_lst (pa_cons (pe_tup (pa_cons (pe_tup (pa_cons pe_int (pa_cons pe_int pa_nil))) pa_nil)) (pa_cons (pe_tup (pa_cons (pe_tup (pa_cons pe_int (pa_cons pe_int pa_nil))) pa_nil)) (pa_cons (pe_tup pa_nil) (pa_cons (pe_tup (pa_cons (pe_tup (pa_cons pe_int (pa_cons pe_int pa_nil))) (pa_cons (pe_tup (pa_cons pe_int (pa_cons pe_int pa_nil))) pa_nil))) pa_nil))))) pa_nil))))) (pss_one (ps_ret pe_bl)) pss_nil)
 (pss_cons (ps_set (i := 8) scWRefusedRight.nd rfl (.inl rfl) (pe_tup (pa_cons pe_str (pa_cons (pe_tup (pa_cons pe_str (pa_cons (pe_tup (pa_cons pe_int (pa_cons pe_int pa_nil))) (pa_cons (pv 0) pa_nil)))) (pa_cons (pe_tup (pa_cons pe_str (pa_cons (pe_tup (pa_cons pe_int (pa_cons pe_int pa_nil))) (pa_cons (pv 0) pa_nil)))) pa_nil)))))
 (pss_one (ps_ret (pe_callG hg GWLike (hr.mono (by first | decide | omega)) rfl T.wLike.g T.wLike.F.kp T.wLike.b .nil passL (pa_cons (pe_call GStillAsked (hr.mono (by first | decide | omega)) rfl T.stillAsked.g T.stillAsked.F.kp T.stillAsked.b .nil (passes_call (takes_of rfl rfl rfl rfl) (fun _ _ _ _ z => z)) (pa_cons (pe_tup (pa_cons pe_int pa_nil)) (pa_cons (pv 8) (pa_cons (pe_tup (pa_cons pe_int (pa_cons pe_int pa_nil))) pa_nil)))) (pa_cons (pe_tup (pa_cons (pe_tup (pa_cons pe_int (pa_cons pe_int pa_nil))) (pa_cons (pe_tup (pa_cons pe_int (pa_cons pe_int pa_nil))) pa_nil))) pa_nil)))))))))))))))), ?_⟩)
  · obtain ⟨rfl, _⟩ := h
    rfl
  obtain ⟨rfl, tabs, k⟩ := h
  refine ⟨by show 1 ≤ sizeLine; decide, fun e ne => ?_⟩
  have s1 := same_new ne (.tup [.str "end"])
  have he := upd_same (H := H) (a := e) (o := .tup [.str "end"])
  generalize upd H e (.tup [.str "end"]) = H1 at s1 he ⊢
  dsimp only [gName, tSeq, tAsg]
  refine lcK (j := 6) (n := 6) (i := 12) (fun k => [(k : Int), 100 - 3 * k, 0, 0]) rfl (by decide) ?_ rfl ?_ ?_
  · exact fun _ => rfl
  · intro k H' R hk s2 z
    refine ⟨_, rfl, _, rfl, _, _, rfl, rfl, .inl ⟨by omega, by omega⟩, _, _, rfl, rfl, by show 4 ≤ sizeLine; decide, fun t nt => z _ _ (same_new nt _) ⟨t, rfl, upd_same⟩⟩
  intro F H2 fv s2 hF hfv
  have s12 := s1.trans s2
  have he2 := s2 _ _ he
  refine ⟨_, rfl, .ref F, firstR, rfl, ⟨F, fv, rfl, hF, hfv⟩, by decide, by decide, fun H3 c1 s3 hc1 => ?_⟩
  dsimp only [gName, tSeq, tAsg, tCall, tCons, tNil]
  refine lcK (j := 7) (n := 7) (i := 12) (fun k => [0, 0, 2000 + (k : Int), 16000 - 3 * k]) rfl (by decide) ?_ rfl ?_ ?_
  · exact fun _ => rfl
  · intro k H' R hk s2 z
    refine ⟨_, rfl, _, _, rfl, rfl, _, rfl, _, _, rfl, rfl, .inl ⟨by omega, by omega⟩, _, _, rfl, rfl, by show 4 ≤ sizeLine; decide, fun t nt => z _ _ (same_new nt _) ⟨t, rfl, upd_same⟩⟩
  intro G H4 gv s4 hG hgv
  refine ⟨.ref G, secondR, rfl, ⟨G, gv, rfl, hG, hgv⟩, by decide, by decide, fun H5 c2 s5 hc2 => ?_⟩
  refine ⟨by show 3 ≤ sizeLine; decide, fun gp ngp => ?_⟩
  have s6 := same_new ngp (.tup [.str "either", c1, c2])
  have s36 := (s4.trans s5).trans s6
  have hgreat : greatP.At (upd H5 gp (.tup [.str "either", c1, c2])) (.ref gp) := ⟨gp, c1, c2, rfl, upd_same, hc1.same s36, hc2.same s6⟩
  have s26 := s3.trans s36
  have he6 := s26 _ _ he2
  have s06 := s12.trans s26
  generalize upd H5 gp (.tup [.str "either", c1, c2]) = H6 at hgreat he6 s06 ⊢
  refine ⟨by show 1 ≤ sizeLine; decide, fun t0 n0 => ⟨t0, 4, [.int 5], rfl, rfl, upd_same, by simp, by decide, by decide, by decide, fun H7 p1 s7 h7 => ?_⟩⟩
  have q7 := (same_new n0 (.tup [.int 5])).trans s7
  refine ⟨by show 1 ≤ sizeLine; decide, fun t1 n1 => ⟨t1, 4, [.int 5], rfl, rfl, upd_same, by simp, by decide, by decide, by decide, fun H8 p2 s8 h8 => ?_⟩⟩
  have q8 := (same_new n1 (.tup [.int 5])).trans s8
  refine ⟨by show 2 ≤ sizeLine; decide, fun d1 nd1 => ⟨by show 4 ≤ sizeLine; decide, fun w1 nw1 => ?_⟩⟩
  have s8a := same_new nd1 (.lst [.str "BadUnits", .ref p2])
  have hd1 := upd_same (H := H8) (a := d1) (o := .lst [.str "BadUnits", .ref p2])
  generalize upd H8 d1 (.lst [.str "BadUnits", .ref p2]) = H9 at s8a hd1 nw1 ⊢
  have s9 := same_new nw1 (.tup [.ref p1, .non, .non, .ref d1])
  have hw1 := upd_same (H := H9) (a := w1) (o := .tup [.ref p1, .non, .non, .ref d1])
  have wo1 : WorldOk (upd H9 w1 (.tup [.ref p1, .non, .non, .ref d1])) (.ref p1) .non .non (.ref d1) :=
    ⟨d1, .ref p2, rfl, .inl ⟨⟨p1, rfl, s9 _ _ (s8a _ _ (q8 _ _ h7))⟩, s9 _ _ hd1, ⟨p2, rfl, s9 _ _ (s8a _ _ h8)⟩⟩⟩
  have s69 := ((q7.trans q8).trans s8a).trans s9
  have hgreat9 := hgreat.same s69
  have hd1b := s9 _ _ hd1
  have he9 := s69 _ _ he6
  have s09 := s06.trans s69
  generalize upd H9 w1 (.tup [.ref p1, .non, .non, .ref d1]) = H10 at s09 he9 hgreat9 wo1 hw1 hd1b ⊢
  refine ⟨by show 3 ≤ sizeLine; decide, fun u2 nu2 => ?_⟩
  have su2 := same_new nu2 (.tup [.int 2, .int 2, .int 2])
  have hu2 := upd_same (H := H10) (a := u2) (o := .tup [.int 2, .int 2, .int 2])
  generalize upd H10 u2 (.tup [.int 2, .int 2, .int 2]) = H11 at su2 hu2 ⊢
  refine ⟨_, rfl, by show 2 ≤ sizeLine; decide, fun f2 nf2 => ?_⟩
  have sf2 := same_new nf2 (.tup [.str "end", .ref e])
  have hf2 := upd_same (H := H11) (a := f2) (o := .tup [.str "end", .ref e])
  generalize upd H11 f2 (.tup [.str "end", .ref e]) = H12 at sf2 hf2 ⊢
  refine ⟨by show 0 ≤ sizeLine; decide, fun t2 nt2 => ?_⟩
  have st2 := same_new nt2 (.tup [])
  have ht2 := upd_same (H := H12) (a := t2) (o := .tup [])
  generalize upd H12 t2 (.tup []) = H13 at st2 ht2 ⊢
  refine ⟨by show 2 ≤ sizeLine; decide, fun d2 nd2 => ?_⟩
  have sd2 := same_new nd2 (.lst [.str "BadPlan", .ref t2])
  have hd2 := upd_same (H := H13) (a := d2) (o := .lst [.str "BadPlan", .ref t2])
  generalize upd H13 d2 (.lst [.str "BadPlan", .ref t2]) = H14 at sd2 hd2 ⊢
  refine ⟨by show 4 ≤ sizeLine; decide, fun w2 nw2 => ?_⟩
  have sw2 := same_new nw2 (.tup [.ref u2, .ref f2, .non, .ref d2])
  have hw2 := upd_same (H := H14) (a := w2) (o := .tup [.ref u2, .ref f2, .non, .ref d2])
  generalize upd H14 w2 (.tup [.ref u2, .ref f2, .non, .ref d2]) = H15 at sw2 hw2 ⊢
  refine ⟨by show 2 ≤ sizeLine; decide, fun W nW => ?_⟩
  have sW := same_new nW (.lst [.ref w1, .ref w2])
  have hW := upd_same (H := H15) (a := W) (o := .lst [.ref w1, .ref w2])
  generalize upd H15 W (.lst [.ref w1, .ref w2]) = H16 at sW hW ⊢
  have r14 := sd2.trans (sw2.trans sW)
  have r13 := st2.trans r14
  have r12 := sf2.trans r13
  have r11 := su2.trans r12
  have wo2 : WorldOk H16 (.ref u2) (.ref f2) .non (.ref d2) := ⟨d2, .ref t2, rfl, .inr (.inl ⟨⟨u2, rfl, r12 _ _ hu2⟩, ⟨f2, .ref e, rfl, r13 _ _ hf2, ⟨e, rfl, r11 _ _ he9⟩⟩, sW _ _ (sw2 _ _ hd2), ⟨t2, rfl, r14 _ _ ht2⟩⟩)⟩
  have wo1b := wo1.gr (.of (T := T0 T) r11)
  have hw1b := r11 _ _ hw1
  have hw2b := sW _ _ hw2
  have s016 := s09.trans r11
  have hgr16 := hgreat9.same r11
  have he16 := r11 _ _ he9
  have nWt : ∀ xs, H16 W ≠ some (.tup xs) := notT hW fun _ z => by cases z
  refine ⟨_, rfl, .inl ⟨rfl, _, SqL.of hW⟩, ?_⟩
  refine ⟨by show 3 ≤ sizeLine; decide, fun u3 nu3 => ?_⟩
  have su3 := same_new nu3 (.tup [.int 2, .int 2, .int 2])
  have hu3 := upd_same (H := H16) (a := u3) (o := .tup [.int 2, .int 2, .int 2])
  generalize upd H16 u3 (.tup [.int 2, .int 2, .int 2]) = H17 at su3 hu3 ⊢
  refine ⟨_, rfl, by show 3 ≤ sizeLine; decide, fun z3 nz3 => ?_⟩
  have sz3 := same_new nz3 (.tup [.int 0, .int 0, .int 0])
  have hz3 := upd_same (H := H17) (a := z3) (o := .tup [.int 0, .int 0, .int 0])
  generalize upd H17 z3 (.tup [.int 0, .int 0, .int 0]) = H18 at sz3 hz3 ⊢
  refine ⟨by show 3 ≤ sizeLine; decide, fun y3 ny3 => ?_⟩
  have sy3 := same_new ny3 (.tup [.int 0, .int 0, .int 0])
  have hy3 := upd_same (H := H18) (a := y3) (o := .tup [.int 0, .int 0, .int 0])
  generalize upd H18 y3 (.tup [.int 0, .int 0, .int 0]) = H19 at sy3 hy3 ⊢
  refine ⟨by show 2 ≤ sizeLine; decide, fun d3 nd3 => ?_⟩
  have sd3 := same_new nd3 (.lst [.str "BadRow", .ref y3])
  have hd3 := upd_same (H := H19) (a := d3) (o := .lst [.str "BadRow", .ref y3])
  generalize upd H19 d3 (.lst [.str "BadRow", .ref y3]) = H20 at sd3 hd3 ⊢
  refine ⟨by show 4 ≤ sizeLine; decide, fun w3 nw3 => ?_⟩
  have sw3 := same_new nw3 (.tup [.ref u3, .ref gp, .ref z3, .ref d3])
  have hw3 := upd_same (H := H20) (a := w3) (o := .tup [.ref u3, .ref gp, .ref z3, .ref d3])
  generalize upd H20 w3 (.tup [.ref u3, .ref gp, .ref z3, .ref d3]) = H21 at sw3 hw3 ⊢
  have r18 := (sy3.trans sd3).trans sw3
  have r17 := sz3.trans r18
  have r16 := su3.trans r17
  have hW21 := r16 _ _ hW
  have nWt21 : ∀ xs, H21 W ≠ some (.tup xs) := notT hW21 fun _ z => by cases z
  have wo3 : WorldOk H21 (.ref u3) (.ref gp) (.ref z3) (.ref d3) := ⟨d3, .ref y3, rfl, .inr (.inr (.inl ⟨⟨u3, rfl, r17 _ _ hu3⟩, hgr16.same r16, ⟨z3, rfl, r18 _ _ hz3⟩, sw3 _ _ hd3, ⟨y3, rfl, sw3 _ _ (sd3 _ _ hy3)⟩⟩))⟩
  have nd1W : (V.ref d1) ≠ .ref W := fun z => (ne_of (r11 _ _ hd1b) hW (fun z => by cases z)) (by injection z)
  have nd2W : (V.ref d2) ≠ .ref W := fun z => (ne_of (sW _ _ (sw2 _ _ hd2)) hW (fun z => by cases z)) (by injection z)
  have nd3W : (V.ref d3) ≠ .ref W := fun z => (ne_of (sw3 _ _ hd3) hW21 (fun z => by cases z)) (by injection z)
  refine ⟨W, [.ref w1, .ref w2], .ref w3, rfl, rfl, hW21, by show 2 < sizeLine; decide, ?_⟩
  have b22 : Sb W H21 (upd H21 W (.lst ([.ref w1, .ref w2] ++ [.ref w3]))) := (Sb.refl W H21).upd
  have hW22 := upd_same (H := H21) (a := W) (o := .lst ([.ref w1, .ref w2] ++ [.ref w3]))
  have wo1c := ((wo1b.gr (.of (T := T0 T) r16)).sb b22 nWt21 nd1W)
  have wo2c := ((wo2.gr (.of (T := T0 T) r16)).sb b22 nWt21 nd2W)
  have wo3c := (wo3.sb b22 nWt21 nd3W)
  have t22 := b22.tups nWt21
  have hw1c := t22 _ _ (r16 _ _ hw1b)
  have hw2c := t22 _ _ (r16 _ _ hw2b)
  have hw3c := t22 _ _ hw3
  have he22 := t22 _ _ (r16 _ _ he16)
  have hgr22 := (hgr16.same r16).mono t22
  have nW0 : H W = none := (s09.trans (su2.trans (sf2.trans (st2.trans (sd2.trans sw2))))).free nW
  have sb22 : Sb W H (upd H21 W (.lst ([.ref w1, .ref w2] ++ [.ref w3]))) := (Sb.of (s016.trans r16)).trans b22
  generalize upd H21 W (.lst ([.ref w1, .ref w2] ++ [.ref w3])) = H22 at b22 hW22 wo1c wo2c wo3c t22 hw1c hw2c hw3c he22 hgr22 sb22 ⊢
  have hW22 : H22 W = some (.lst [.ref w1, .ref w2, .ref w3]) := hW22
  refine ⟨_, rfl, .inl ⟨rfl, _, SqL.of hW22⟩, ?_⟩
  refine ⟨by show 3 ≤ sizeLine; decide, fun u4 nu4 => ?_⟩
  have su4 := same_new nu4 (.tup [.int 2, .int 2, .int 2])
  have hu4 := upd_same (H := H22) (a := u4) (o := .tup [.int 2, .int 2, .int 2])
  generalize upd H22 u4 (.tup [.int 2, .int 2, .int 2]) = H23 at su4 hu4 ⊢
  refine ⟨_, rfl, by show 4 ≤ sizeLine; decide, fun z4 nz4 => ?_⟩
  have sz4 := same_new nz4 (.tup [.int 9, .int 9, .int 9, .int 9])
  have hz4 := upd_same (H := H23) (a := z4) (o := .tup [.int 9, .int 9, .int 9, .int 9])
  generalize upd H23 z4 (.tup [.int 9, .int 9, .int 9, .int 9]) = H24 at sz4 hz4 ⊢
  refine ⟨by show 2 ≤ sizeLine; decide, fun d4 nd4 => ?_⟩
  have sd4 := same_new nd4 (.lst [.str "TooGreat", .int 40])
  have hd4 := upd_same (H := H24) (a := d4) (o := .lst [.str "TooGreat", .int 40])
  generalize upd H24 d4 (.lst [.str "TooGreat", .int 40]) = H25 at sd4 hd4 ⊢
  refine ⟨by show 4 ≤ sizeLine; decide, fun w4 nw4 => ?_⟩
  have sw4 := same_new nw4 (.tup [.ref u4, .ref gp, .ref z4, .ref d4])
  have hw4 := upd_same (H := H25) (a := w4) (o := .tup [.ref u4, .ref gp, .ref z4, .ref d4])
  generalize upd H25 w4 (.tup [.ref u4, .ref gp, .ref z4, .ref d4]) = H26 at sw4 hw4 ⊢
  have r24 := sd4.trans sw4
  have r23 := sz4.trans r24
  have r22 := su4.trans r23
  have hW26 := r22 _ _ hW22
  have nWt26 : ∀ xs, H26 W ≠ some (.tup xs) := notT hW26 fun _ z => by cases z
  have wo4 : WorldOk H26 (.ref u4) (.ref gp) (.ref z4) (.ref d4) := ⟨d4, .int 40, rfl, .inr (.inr (.inr ⟨⟨u4, rfl, r23 _ _ hu4⟩, hgr22.same r22, ⟨z4, rfl, r24 _ _ hz4⟩, sw4 _ _ hd4, rfl⟩))⟩
  have nd4W : (V.ref d4) ≠ .ref W := fun z => (ne_of (sw4 _ _ hd4) hW26 (fun z => by cases z)) (by injection z)
  refine ⟨W, [.ref w1, .ref w2, .ref w3], .ref w4, rfl, rfl, hW26, by show 3 < sizeLine; decide, ?_⟩
  have b27 : Sb W H26 (upd H26 W (.lst ([.ref w1, .ref w2, .ref w3] ++ [.ref w4]))) := (Sb.refl W H26).upd
  have hW27 := upd_same (H := H26) (a := W) (o := .lst ([.ref w1, .ref w2, .ref w3] ++ [.ref w4]))
  have wo1d := ((wo1c.gr (.of (T := T0 T) r22)).sb b27 nWt26 nd1W)
  have wo2d := ((wo2c.gr (.of (T := T0 T) r22)).sb b27 nWt26 nd2W)
  have wo3d := ((wo3c.gr (.of (T := T0 T) r22)).sb b27 nWt26 nd3W)
  have wo4d := (wo4.sb b27 nWt26 nd4W)
  have t27 := b27.tups nWt26
  have hw1d := t27 _ _ (r22 _ _ hw1c)
  have hw2d := t27 _ _ (r22 _ _ hw2c)
  have hw3d := t27 _ _ (r22 _ _ hw3c)
  have hw4d := t27 _ _ hw4
  have he27 := t27 _ _ (r22 _ _ he22)
  have s27 : Same H (upd H26 W (.lst ([.ref w1, .ref w2, .ref w3] ++ [.ref w4]))) := ((sb22.trans (.of r22)).trans b27).same nW0
  generalize upd H26 W (.lst ([.ref w1, .ref w2, .ref w3] ++ [.ref w4])) = H27 at hW27 wo1d wo2d wo3d wo4d hw1d hw2d hw3d hw4d he27 s27 ⊢
  have hW27 : H27 W = some (.lst [.ref w1, .ref w2, .ref w3, .ref w4]) := hW27
  have tabs27 : Tabs (T0 T) H27 := tabs.ext s27
  have worlds : ∀ (i : Nat) (v : V), [V.ref w1, .ref w2, .ref w3, .ref w4][i]? = some v → ∃ a x1 x2 x3 x4, v = .ref a ∧ H27 a = some (.tup [x1, x2, x3, x4]) ∧ WorldOk H27 x1 x2 x3 x4 := fun i v e => by
    match i, e with
    | 0, e => cases e; exact ⟨_, _, _, _, _, rfl, hw1d, wo1d⟩
    | 1, e => cases e; exact ⟨_, _, _, _, _, rfl, hw2d, wo2d⟩
    | 2, e => cases e; exact ⟨_, _, _, _, _, rfl, hw3d, wo3d⟩
    | 3, e => cases e; exact ⟨_, _, _, _, _, rfl, hw4d, wo4d⟩
    | n + 4, e => simp at e
  refine ⟨_, rfl, W, rfl, ⟨_, SqL.of hW27⟩, for_list (xs := [V.ref w1, .ref w2, .ref w3, .ref w4]) (fun i σ H' => ∃ v4 v5 v6 v9 v10 v11, σ = [some (.ref e), some (.ref F), some (.ref gp), some (.ref W), v4, v5, v6, none, none, v9, v10, v11, none] ∧ Gr (T0 T) [] H27 H')
    ⟨none, none, none, none, none, none, rfl, Gr.refl H27⟩ (fun i σ H' _ ⟨_, _, _, _, _, _, _, g⟩ => SqL.of (g.lst hW27)) ?_ ?_⟩
  · rintro i v σ H' hv ⟨v4, v5, v6, v9, v10, v11, rfl, g⟩
    obtain ⟨a, x1, x2, x3, x4, rfl, ha, wo⟩ := worlds i v hv
    refine ⟨a, _, rfl, SqT.of (g.tup ha), rfl, _, _, rfl, _, _, rfl, _, _, rfl, _, _, rfl, rfl, ?_⟩
    refine ⟨by show 2 ≤ sizeLine; decide, fun B nB => ?_⟩
    have sB := same_new nB (.lst [.bl true, .bl false])
    have hB := upd_same (H := H') (a := B) (o := .lst [.bl true, .bl false])
    generalize upd H' B (.lst [.bl true, .bl false]) = H'' at sB hB ⊢
    have g2 := g.trans (.of sB)
    refine ⟨B, rfl, ⟨_, SqL.of hB⟩, for_list (xs := [V.bl true, .bl false]) (fun j σ H3 => ∃ v5 v6, σ = [some (.ref e), some (.ref F), some (.ref gp), some (.ref W), some x4, v5, v6, none, none, some x2, some x3, some x1, none] ∧ Gr (T0 T) [] H'' H3)
      ⟨v5, v6, rfl, Gr.refl H''⟩ (fun j σ H3 _ ⟨_, _, _, g⟩ => SqL.of (g.lst hB)) ?_ ?_⟩
    · rintro j b σ H3 hb ⟨v5, v6, rfl, g3⟩
      have g4 := g2.trans g3
      have wo3 := wo.gr g4
      refine ⟨g4.tabs tabs27, fun H5 eN T5 => ?_⟩
      have g5 : Gr (T0 T) [] H3 H5 := ⟨fun b o e n _ => eN b o e n, fun _ => T5⟩
      refine ⟨_, rfl, _, rfl, _, rfl, world_told T (great_asked _) T5 (wo3.gr g5) fun H6 l c d g6 ex dl dc sh => ?_⟩
      subst ex
      have g46 := (g4.trans g5).trans g6
      have bb : ∃ z, b = .bl z := by
        match j, hb with
        | 0, hb => cases hb; exact ⟨_, rfl⟩
        | 1, hb => cases hb; exact ⟨_, rfl⟩
        | n + 2, hb => simp at hb
      obtain ⟨z, rfl⟩ := bb
      refine ⟨_, rfl, z, rfl, ?_⟩
      cases z with
      | true =>
        refine iteF ?_
        refine ⟨_, rfl, _, rfl, .inr ⟨l, c, d, rfl, dl, dc, sh⟩, true, rfl, iteF ?_⟩
        exact ⟨_, _, rfl, (g3.trans g5).trans g6⟩
      | false =>
        refine iteT ?_
        have wo6 := wo.gr g46
        refine ⟨g46.tabs tabs27, fun H7 eN7 T7 => ?_⟩
        have g7 : Gr (T0 T) [] H6 H7 := ⟨fun b o e n _ => eN7 b o e n, fun _ => T7⟩
        refine ⟨_, rfl, _, rfl, _, rfl, world_told T (great_lacks _) T7 (wo6.gr g7) fun H8 l c d g8 ex dl dc sh => ?_⟩
        refine ⟨_, rfl, _, rfl, .inr ⟨l, c, d, ?_, dl, dc, sh⟩, true, rfl, iteF ?_⟩
        · rw [ex]
          rfl
        exact ⟨_, _, rfl, (((g3.trans g5).trans g6).trans g7).trans g8⟩
    · rintro σ H3 ⟨v5, v6, rfl, g3⟩
      exact ⟨_, _, _, _, _, _, rfl, g2.trans g3⟩
  · rintro σ H' ⟨v4, v5, v6, v9, v10, v11, rfl, g⟩
    have he' := g.tup he27
    refine ⟨by show 2 ≤ sizeLine; decide, fun q1 nq1 => ?_⟩
    have sq1 := same_new nq1 (.tup [.int 1, .int 0])
    have hq1 := upd_same (H := H') (a := q1) (o := .tup [.int 1, .int 0])
    generalize upd H' q1 (.tup [.int 1, .int 0]) = K1 at sq1 hq1 ⊢
    refine ⟨_, rfl, by show 3 ≤ sizeLine; decide, fun a1 na1 => ?_⟩
    have sa1 := same_new na1 (.tup [.str "ask", .ref q1, .ref e])
    have ha1 := upd_same (H := K1) (a := a1) (o := .tup [.str "ask", .ref q1, .ref e])
    generalize upd K1 a1 (.tup [.str "ask", .ref q1, .ref e]) = K2 at sa1 ha1 ⊢
    refine ⟨by show 2 ≤ sizeLine; decide, fun q2 nq2 => ?_⟩
    have sq2 := same_new nq2 (.tup [.int 0, .int 3])
    have hq2 := upd_same (H := K2) (a := q2) (o := .tup [.int 0, .int 3])
    generalize upd K2 q2 (.tup [.int 0, .int 3]) = K3 at sq2 hq2 ⊢
    refine ⟨_, rfl, by show 3 ≤ sizeLine; decide, fun a2 na2 => ?_⟩
    have sa2 := same_new na2 (.tup [.str "ask", .ref q2, .ref e])
    have ha2 := upd_same (H := K3) (a := a2) (o := .tup [.str "ask", .ref q2, .ref e])
    generalize upd K3 a2 (.tup [.str "ask", .ref q2, .ref e]) = K4 at sa2 ha2 ⊢
    refine ⟨by show 3 ≤ sizeLine; decide, fun pl npl => ?_⟩
    have spl := same_new npl (.tup [.str "ours", .ref a1, .ref a2])
    have hpl := upd_same (H := K4) (a := pl) (o := .tup [.str "ours", .ref a1, .ref a2])
    generalize upd K4 pl (.tup [.str "ours", .ref a1, .ref a2]) = K5 at spl hpl ⊢
    have r4 := sa2.trans spl
    have r3 := sq2.trans r4
    have r2 := sa1.trans r3
    have r1 := sq1.trans r2
    have hpl5 : twoP.At K5 (.ref pl) := ⟨pl, _, _, rfl, hpl, ⟨a1, _, _, rfl, r3 _ _ ha1, ⟨q1, rfl, r2 _ _ hq1⟩, ⟨e, rfl, r1 _ _ he'⟩⟩, ⟨a2, _, _, rfl, spl _ _ ha2, ⟨q2, rfl, r4 _ _ hq2⟩, ⟨e, rfl, r1 _ _ he'⟩⟩⟩
    have g5 := g.trans (.of r1)
    have he5 := r1 _ _ he'
    have tabs5 := g5.tabs tabs27
    refine ⟨by show 1 ≤ sizeLine; decide, fun m1 nm1 => ?_⟩
    have sm1 := same_new nm1 (.tup [.int 2])
    have hm1 := upd_same (H := K5) (a := m1) (o := .tup [.int 2])
    generalize upd K5 m1 (.tup [.int 2]) = K6 at sm1 hm1 ⊢
    refine ⟨_, rfl, by show 2 ≤ sizeLine; decide, fun r1x nr1x => ?_⟩
    have sr1x := same_new nr1x (.tup [.int 1, .int 2])
    have hr1x := upd_same (H := K6) (a := r1x) (o := .tup [.int 1, .int 2])
    generalize upd K6 r1x (.tup [.int 1, .int 2]) = K7 at sr1x hr1x ⊢
    have c7 := sm1.trans sr1x
    refine ⟨.ref m1, .ref pl, .ref r1x, rfl, tabs5.ext c7, [2], ⟨m1, rfl, sr1x _ _ hm1⟩, .inr (.inr ⟨twoP, [1, 2], hpl5.same c7, ⟨r1x, rfl, hr1x⟩, two_good, .inr ⟨goodR2 (by decide) (by decide) (by decide) (by decide), fun R e1 H8 t1 g8 tr1 => ?_, fun e1 => by rw [two_a] at e1; cases e1⟩⟩)⟩
    rw [two_a] at e1
    cases e1
    have g08 := (g5.trans (.of c7)).trans g8
    have pl8 := (hpl5.same c7).mono (.gr g8)
    have he8 := g8.tup (c7 _ _ he5)
    refine ⟨by show 1 ≤ sizeLine; decide, fun m2 nm2 => ?_⟩
    have sm2 := same_new nm2 (.tup [.int 2])
    have hm2 := upd_same (H := H8) (a := m2) (o := .tup [.int 2])
    generalize upd H8 m2 (.tup [.int 2]) = K8 at sm2 hm2 ⊢
    refine ⟨_, rfl, by show 2 ≤ sizeLine; decide, fun r2x nr2x => ?_⟩
    have sr2x := same_new nr2x (.tup [.int 0, .int 1])
    have hr2x := upd_same (H := K8) (a := r2x) (o := .tup [.int 0, .int 1])
    generalize upd K8 r2x (.tup [.int 0, .int 1]) = K9 at sr2x hr2x ⊢
    have c9 := sm2.trans sr2x
    refine ⟨.ref m2, .ref pl, .ref r2x, rfl, (g08.tabs tabs27).ext c9, [2], ⟨m2, rfl, sr2x _ _ hm2⟩, .inr (.inr ⟨twoP, [0, 1], pl8.same c9, ⟨r2x, rfl, hr2x⟩, two_good, .inr ⟨goodR2 (by decide) (by decide) (by decide) (by decide), fun R e1 H10 t2 g10 tr2 => ?_, fun e1 => by rw [two_b] at e1; cases e1⟩⟩)⟩
    rw [two_b] at e1
    cases e1
    have g010 := (g08.trans (.of c9)).trans g10
    have pl10 := (pl8.same c9).mono (.gr g10)
    have he10 := g10.tup (c9 _ _ he8)
    have tr1a := (tr1.mono (.of c9)).mono (.gr g10)
    refine ⟨by show 1 ≤ sizeLine; decide, fun m3 nm3 => ?_⟩
    have sm3 := same_new nm3 (.tup [.int 2])
    have hm3 := upd_same (H := H10) (a := m3) (o := .tup [.int 2])
    generalize upd H10 m3 (.tup [.int 2]) = K10 at sm3 hm3 ⊢
    refine ⟨_, rfl, by show 2 ≤ sizeLine; decide, fun r3x nr3x => ?_⟩
    have sr3x := same_new nr3x (.tup [.int 0, .int 1])
    have hr3x := upd_same (H := K10) (a := r3x) (o := .tup [.int 0, .int 1])
    generalize upd K10 r3x (.tup [.int 0, .int 1]) = K11 at sr3x hr3x ⊢
    have c11 := sm3.trans sr3x
    refine ⟨.ref m3, .ref pl, .ref r3x, rfl, (g010.tabs tabs27).ext c11, [2], ⟨m3, rfl, sr3x _ _ hm3⟩, .inr (.inr ⟨twoP, [0, 1], pl10.same c11, ⟨r3x, rfl, hr3x⟩, two_good, .inr ⟨goodR2 (by decide) (by decide) (by decide) (by decide), fun R e1 H12 t3 g12 tr3 => ?_, fun e1 => by rw [two_c] at e1; cases e1⟩⟩)⟩
    rw [two_c] at e1
    cases e1
    have g012 := (g010.trans (.of c11)).trans g12
    have pl12 := (pl10.same c11).mono (.gr g12)
    have he12 := g12.tup (c11 _ _ he10)
    have tr1b := (tr1a.mono (.of c11)).mono (.gr g12)
    have tr2b := (tr2.mono (.of c11)).mono (.gr g12)
    refine ⟨by show 3 ≤ sizeLine; decide, fun gt ngt => ?_⟩
    have sgt := same_new ngt (.lst [t1, t2, t3])
    have hgt := upd_same (H := H12) (a := gt) (o := .lst [t1, t2, t3])
    generalize upd H12 gt (.lst [t1, t2, t3]) = K12 at sgt hgt ⊢
    refine ⟨_, rfl, by show 1 ≤ sizeLine; decide, fun m4 nm4 => ?_⟩
    have sm4 := same_new nm4 (.tup [.int 2])
    have hm4 := upd_same (H := K12) (a := m4) (o := .tup [.int 2])
    generalize upd K12 m4 (.tup [.int 2]) = K13 at sm4 hm4 ⊢
    refine ⟨_, rfl, by show 2 ≤ sizeLine; decide, fun r4x nr4x => ?_⟩
    have sr4x := same_new nr4x (.tup [.int 0, .int 0])
    have hr4x := upd_same (H := K13) (a := r4x) (o := .tup [.int 0, .int 0])
    generalize upd K13 r4x (.tup [.int 0, .int 0]) = K14 at sr4x hr4x ⊢
    have c14 := (sgt.trans sm4).trans sr4x
    refine ⟨.ref m4, .ref pl, .ref r4x, rfl, (g012.tabs tabs27).ext c14, [2], ⟨m4, rfl, sr4x _ _ hm4⟩, .inr (.inr ⟨twoP, [0, 0], pl12.same c14, ⟨r4x, rfl, hr4x⟩, two_good, .inr ⟨goodR2 (by decide) (by decide) (by decide) (by decide), fun R e1 H15 t4 g15 tr4 => ?_, fun e1 => by rw [two_d] at e1; cases e1⟩⟩)⟩
    rw [two_d] at e1
    cases e1
    have g015 := (g012.trans (.of c14)).trans g15
    have pl15 := (pl12.same c14).mono (.gr g15)
    have he15 := g15.tup (c14 _ _ he12)
    have tr1c := (tr1b.mono (.of c14)).mono (.gr g15)
    have tr2c := (tr2b.mono (.of c14)).mono (.gr g15)
    have tr3c := (tr3.mono (.of c14)).mono (.gr g15)
    have hgt15 := g15.lst (sr4x _ _ (sm4 _ _ hgt))
    refine ⟨by show 1 ≤ sizeLine; decide, fun ls nls => ?_⟩
    have sls := same_new nls (.lst [t4])
    have hls := upd_same (H := H15) (a := ls) (o := .lst [t4])
    generalize upd H15 ls (.lst [t4]) = K15 at sls hls ⊢
    refine ⟨gt, ls, [t1, t2, t3], [t4], rfl, rfl, sls _ _ hgt15, hls, by show 4 ≤ sizeLine; decide, fun gl ngl => ?_⟩
    have sgl := same_new ngl (.lst ([t1, t2, t3] ++ [t4]))
    have hgl := upd_same (H := K15) (a := gl) (o := .lst ([t1, t2, t3] ++ [t4]))
    generalize upd K15 gl (.lst ([t1, t2, t3] ++ [t4])) = K16 at sgl hgl ⊢
    refine ⟨by show 2 ≤ sizeLine; decide, fun b1 nb1 => ?_⟩
    have sb1 := same_new nb1 (.tup [.int 0, .int 2])
    have hb1 := upd_same (H := K16) (a := b1) (o := .tup [.int 0, .int 2])
    generalize upd K16 b1 (.tup [.int 0, .int 2]) = K17 at sb1 hb1 ⊢
    refine ⟨by show 1 ≤ sizeLine; decide, fun b2 nb2 => ?_⟩
    have sb2 := same_new nb2 (.tup [.ref b1])
    have hb2 := upd_same (H := K17) (a := b2) (o := .tup [.ref b1])
    generalize upd K17 b2 (.tup [.ref b1]) = K18 at sb2 hb2 ⊢
    refine ⟨by show 2 ≤ sizeLine; decide, fun b3 nb3 => ?_⟩
    have sb3 := same_new nb3 (.tup [.int 0, .int 2])
    have hb3 := upd_same (H := K18) (a := b3) (o := .tup [.int 0, .int 2])
    generalize upd K18 b3 (.tup [.int 0, .int 2]) = K19 at sb3 hb3 ⊢
    refine ⟨by show 1 ≤ sizeLine; decide, fun b4 nb4 => ?_⟩
    have sb4 := same_new nb4 (.tup [.ref b3])
    have hb4 := upd_same (H := K19) (a := b4) (o := .tup [.ref b3])
    generalize upd K19 b4 (.tup [.ref b3]) = K20 at sb4 hb4 ⊢
    refine ⟨by show 0 ≤ sizeLine; decide, fun b5 nb5 => ?_⟩
    have sb5 := same_new nb5 (.tup [])
    have hb5 := upd_same (H := K20) (a := b5) (o := .tup [])
    generalize upd K20 b5 (.tup []) = K21 at sb5 hb5 ⊢
    refine ⟨by show 2 ≤ sizeLine; decide, fun b6 nb6 => ?_⟩
    have sb6 := same_new nb6 (.tup [.int 0, .int 3])
    have hb6 := upd_same (H := K21) (a := b6) (o := .tup [.int 0, .int 3])
    generalize upd K21 b6 (.tup [.int 0, .int 3]) = K22 at sb6 hb6 ⊢
    refine ⟨by show 2 ≤ sizeLine; decide, fun b7 nb7 => ?_⟩
    have sb7 := same_new nb7 (.tup [.int 1, .int 0])
    have hb7 := upd_same (H := K22) (a := b7) (o := .tup [.int 1, .int 0])
    generalize upd K22 b7 (.tup [.int 1, .int 0]) = K23 at sb7 hb7 ⊢
    refine ⟨by show 2 ≤ sizeLine; decide, fun b8 nb8 => ?_⟩
    have sb8 := same_new nb8 (.tup [.ref b6, .ref b7])
    have hb8 := upd_same (H := K23) (a := b8) (o := .tup [.ref b6, .ref b7])
    generalize upd K23 b8 (.tup [.ref b6, .ref b7]) = K24 at sb8 hb8 ⊢
    refine ⟨by show 4 ≤ sizeLine; decide, fun du ndu => ?_⟩
    have sdu := same_new ndu (.lst [.ref b2, .ref b4, .ref b5, .ref b8])
    have hdu := upd_same (H := K24) (a := du) (o := .lst [.ref b2, .ref b4, .ref b5, .ref b8])
    generalize upd K24 du (.lst [.ref b2, .ref b4, .ref b5, .ref b8]) = K25 at sdu hdu ⊢
    have z24 := sdu
    have z23 := sb8.trans z24
    have z22 := sb7.trans z23
    have z21 := sb6.trans z22
    have z20 := sb5.trans z21
    have z19 := sb4.trans z20
    have z18 := sb3.trans z19
    have z17 := sb2.trans z18
    have z16 := sb1.trans z17
    have z15 := (sls.trans sgl).trans z16
    have o1 : TR K25 (.ref b2) [[0, 2]] := tr_one (z18 _ _ hb2) (z17 _ _ hb1)
    have o2 : TR K25 (.ref b4) [[0, 2]] := tr_one (z20 _ _ hb4) (z19 _ _ hb3)
    have o3 : TR K25 (.ref b5) [] := ⟨b5, [], rfl, z21 _ _ hb5, .nil⟩
    have o4 : TR K25 (.ref b8) [[0, 3], [1, 0]] := tr_two (z24 _ _ hb8) (z22 _ _ hb6) (z23 _ _ hb7)
    refine ⟨.inr ⟨gl, du, _, rfl, .lst (SqL.of (z16 _ _ hgl)) (.cons (tr1c.mono (.of z15)).dp (.cons (tr2c.mono (.of z15)).dp (.cons (tr3c.mono (.of z15)).dp (.cons (tr4.mono (.of z15)).dp .nil)))), .lst (SqL.of hdu) (.cons o1.dp (.cons o2.dp (.cons o3.dp (.cons o4.dp .nil)))), shw5⟩, true, rfl, iteF ?_⟩
    have g025 := g015.trans (.of z15)
    have he25 := z15 _ _ he15
    refine ⟨by show 2 ≤ sizeLine; decide, fun x1 nx1 => ?_⟩
    have sx1 := same_new nx1 (.tup [.int 1, .int 0])
    have hx1 := upd_same (H := K25) (a := x1) (o := .tup [.int 1, .int 0])
    generalize upd K25 x1 (.tup [.int 1, .int 0]) = J1 at sx1 hx1 ⊢
    refine ⟨_, rfl, by show 3 ≤ sizeLine; decide, fun x2 nx2 => ?_⟩
    have sx2 := same_new nx2 (.tup [.str "ask", .ref x1, .ref e])
    have hx2 := upd_same (H := J1) (a := x2) (o := .tup [.str "ask", .ref x1, .ref e])
    generalize upd J1 x2 (.tup [.str "ask", .ref x1, .ref e]) = J2 at sx2 hx2 ⊢
    refine ⟨by show 2 ≤ sizeLine; decide, fun x3 nx3 => ?_⟩
    have sx3 := same_new nx3 (.tup [.int 0, .int 5])
    have hx3 := upd_same (H := J2) (a := x3) (o := .tup [.int 0, .int 5])
    generalize upd J2 x3 (.tup [.int 0, .int 5]) = J3 at sx3 hx3 ⊢
    refine ⟨_, rfl, by show 3 ≤ sizeLine; decide, fun x4 nx4 => ?_⟩
    have sx4 := same_new nx4 (.tup [.str "ask", .ref x3, .ref e])
    have hx4 := upd_same (H := J3) (a := x4) (o := .tup [.str "ask", .ref x3, .ref e])
    generalize upd J3 x4 (.tup [.str "ask", .ref x3, .ref e]) = J4 at sx4 hx4 ⊢
    refine ⟨by show 3 ≤ sizeLine; decide, fun pw npw => ?_⟩
    have spw := same_new npw (.tup [.str "ours", .ref x2, .ref x4])
    have hpw := upd_same (H := J4) (a := pw) (o := .tup [.str "ours", .ref x2, .ref x4])
    generalize upd J4 pw (.tup [.str "ours", .ref x2, .ref x4]) = J5 at spw hpw ⊢
    have y4 := sx4.trans spw
    have y3 := sx3.trans y4
    have y2 := sx2.trans y3
    have y1 := sx1.trans y2
    have hpw5 : wideP.At J5 (.ref pw) := ⟨pw, _, _, rfl, hpw, ⟨x2, _, _, rfl, y3 _ _ hx2, ⟨x1, rfl, y2 _ _ hx1⟩, ⟨e, rfl, y1 _ _ he25⟩⟩, ⟨x4, _, _, rfl, spw _ _ hx4, ⟨x3, rfl, y4 _ _ hx3⟩, ⟨e, rfl, y1 _ _ he25⟩⟩⟩
    have gJ5 := g025.trans (.of y1)
    refine ⟨by show 1 ≤ sizeLine; decide, fun m5 nm5 => ?_⟩
    have sm5 := same_new nm5 (.tup [.int 2])
    have hm5 := upd_same (H := J5) (a := m5) (o := .tup [.int 2])
    generalize upd J5 m5 (.tup [.int 2]) = J6 at sm5 hm5 ⊢
    refine ⟨_, rfl, by show 2 ≤ sizeLine; decide, fun r5x nr5x => ?_⟩
    have sr5x := same_new nr5x (.tup [.int 1, .int 5])
    have hr5x := upd_same (H := J6) (a := r5x) (o := .tup [.int 1, .int 5])
    generalize upd J6 r5x (.tup [.int 1, .int 5]) = J7 at sr5x hr5x ⊢
    have c7 := sm5.trans sr5x
    refine ⟨.ref m5, .ref pw, .ref r5x, rfl, (gJ5.tabs tabs27).ext c7, [2], ⟨m5, rfl, sr5x _ _ hm5⟩, .inr (.inr ⟨wideP, [1, 5], hpw5.same c7, ⟨r5x, rfl, hr5x⟩, wide_good, .inr ⟨goodR2 (by decide) (by decide) (by decide) (by decide), fun R e1 J8 t5 g8 tr5 => ?_, fun e1 => by rw [wide_a] at e1; cases e1⟩⟩)⟩
    rw [wide_a] at e1
    cases e1
    have gJ8 := (gJ5.trans (.of c7)).trans g8
    refine ⟨by show 2 ≤ sizeLine; decide, fun v1 nv1 => ?_⟩
    have sv1 := same_new nv1 (.tup [.int 0, .int 5])
    have hv1 := upd_same (H := J8) (a := v1) (o := .tup [.int 0, .int 5])
    generalize upd J8 v1 (.tup [.int 0, .int 5]) = J9 at sv1 hv1 ⊢
    refine ⟨by show 2 ≤ sizeLine; decide, fun v2 nv2 => ?_⟩
    have sv2 := same_new nv2 (.tup [.int 1, .int 0])
    have hv2 := upd_same (H := J9) (a := v2) (o := .tup [.int 1, .int 0])
    generalize upd J9 v2 (.tup [.int 1, .int 0]) = J10 at sv2 hv2 ⊢
    refine ⟨by show 2 ≤ sizeLine; decide, fun v3 nv3 => ?_⟩
    have sv3 := same_new nv3 (.tup [.ref v1, .ref v2])
    have hv3 := upd_same (H := J10) (a := v3) (o := .tup [.ref v1, .ref v2])
    generalize upd J10 v3 (.tup [.ref v1, .ref v2]) = J11 at sv3 hv3 ⊢
    have n9 := (sv1.trans sv2).trans sv3
    have o5 : TR J11 (.ref v3) [[0, 5], [1, 0]] := tr_two hv3 (sv3 _ _ (sv2 _ _ hv1)) (sv3 _ _ hv2)
    obtain ⟨ta, _, rfl, _⟩ := id tr5
    exact ⟨.inr ⟨ta, v3, _, rfl, (tr5.mono (.of n9)).dp, o5.dp, shw6⟩, k _ ((Gr.of s27).trans (gJ8.trans (.of n9)))⟩
end
end K40
end
section
set_option Elab.async false
set_option linter.all false
set_option autoImplicit false
set_option maxRecDepth 100000
/-! Mathematics: the stocks of a plan; what the empty stock lacks. -/
namespace K40
open PySem PySem.Spec PyProof.Rows L2
theorem zsub_zeros : ∀ (n : Nat) (o : List Int), o.length = n → zsub o (List.replicate n 0) = o
  | 0, [], _ => rfl
  | n + 1, x :: xs, h => by
    show (x - 0) :: zsub xs (List.replicate n 0) = _
    rw [zsub_zeros n xs (by simpa using h), Int.sub_zero]
theorem nodup_len : ∀ {L M : List Row}, L.Nodup → (∀ x ∈ L, x ∈ M) → L.length ≤ M.length
  | [], _, _, _ => Nat.zero_le _
  | x :: xs, M, nd, h => by
    have hx := h x (by simp)
    have nd2 := List.nodup_cons.mp nd
    have ih := nodup_len (L := xs) (M := M.erase x) nd2.2 fun y hy => (List.mem_erase_of_ne (fun (e : y = x) => nd2.1 (by rw [← e]; exact hy))).mpr (h y (List.mem_cons_of_mem _ hy))
    rw [List.length_erase_of_mem hx] at ih
    have := List.length_pos_of_mem hx
    rw [List.length_cons]
    omega
section
variable {us : List Int} {d : Nat} {p : Plan} {L : List Row}
theorem LeastOk.forty (hu : pos1 us) (lo : LeastOk us d p L) (hd : SmallD us d) : L.length ≤ 40 := by
  obtain ⟨out, k, _⟩ := kept_ok hu hd lo.st lo.last lo.few
  have h1 := kept_length k
  have lens : ∀ x ∈ L, x.length = us.length + 1 := fun x hx => (lo.st x hx).len
  have sub : ∀ x ∈ L, x ∈ out := fun x hx => by
    obtain ⟨y, hy, hle⟩ := (kept_any lens k x).mpr ⟨x, hx, .refl x⟩
    have hyL := kept_mem k hy
    obtain ⟨i, hi, ei⟩ := List.mem_iff_getElem.mp hx
    obtain ⟨j, hj, ej⟩ := List.mem_iff_getElem.mp hyL
    have pw := List.pairwise_iff_getElem.mp lo.anti
    by_cases e : i = j
    · subst e
      rw [← ei, ej]
      exact hy
    · exfalso
      rcases Nat.lt_or_gt_of_ne e with h | h
      · have q := (pw i j hi hj h).2
        rw [ei, ej] at q
        exact q hle
      · have q := (pw j i hj hi h).1
        rw [ei, ej] at q
        exact q hle
  have := nodup_len lo.nodup sub
  omega
theorem stocks_facts (hu : pos1 us) (hd : SmallD us d) (lo : LeastOk us d p L) :
    RowsOk us (rowsOf us L) ∧ rowsOf us L ≠ [] ∧ (∀ a ∈ rowsOf us L, (stair us a).getLastD 0 ≤ 5 * (d : Int)) ∧ (rowsOf us L).length ≤ 40 ∧ lacksM us p (List.replicate (us.length + 1) 0) = some (rowsOf us L) := by
  have h40 := lo.forty hu hd
  refine ⟨rowsOf_ok lo.st lo.anti, fun e => ?_, fun a ha => ?_, by rw [rowsOf_length]; exact h40, ?_⟩
  · have := rowsOf_length us L
    rw [e] at this
    exact lo.ne (List.length_eq_zero_iff.mp this.symm)
  · obtain ⟨z, hz, rfl⟩ := rowsOf_mem.mp ha
    rw [(lo.st z hz).stair]
    exact lo.last z hz
  · unfold lacksM
    rw [lo.eq]
    have e : (L.map fun o => up us (zsub o (stair us (List.replicate (us.length + 1) 0)))) = L := by
      rw [stair_zeros]
      conv => rhs; rw [← List.map_id L]
      refine List.map_congr_left fun o ho => ?_
      rw [zsub_zeros _ o (lo.st o ho).len, up_of hu (lo.st o ho)]
      rfl
    show (kept _).map _ = _
    rw [e, kept_id (fun x hx => (lo.st x hx).len) lo.asc lo.anti lo.nodup h40]
    rfl
end
end K40
end
section
set_option Elab.async false
set_option linter.all false
set_option autoImplicit false
set_option maxRecDepth 100000
/-! A drawn plan is well. -/
namespace K40
open PySem PySem.Spec PyProof.Rows L2
theorem RowOk.low {us : List Int} {m : Int} {r : Row} (h : RowOk us m r) (uo : UOk us) : ∀ y ∈ r, 0 ≤ y ∧ y ≤ m := fun y hy => by
  have q := dot_ge r (sizesM us) h.2.1 (fun z hz => (uo.sizes hz).1) (by rw [h.1, sizesM_length]; exact Nat.le_refl _)
  have := q.2 y hy
  have := h.2.2
  exact ⟨h.2.1 y hy, by omega⟩
theorem big60 {x : Int} (h : x ≤ 1000) : x ≤ 10 ^ 60 := Int.le_trans h (by decide)
theorem drawn_ok {us : List Int} (uo : UOk us) : ∀ (d : Nat) (p : Plan), Drawn us d p → p.Ok (us.length + 1) (10 ^ 60) ∧ p.depth ≤ d + 1 ∧ p.parts + 1 ≤ 2 ^ (d + 1)
  | d, .fin, _ => ⟨by unfold Plan.Ok; trivial, by unfold Plan.depth; omega, by
      have : 2 ^ 1 ≤ 2 ^ (d + 1) := Nat.pow_le_pow_right (by decide) (by omega)
      unfold Plan.parts
      omega⟩
  | d + 1, .ask r p, h => by
    obtain ⟨a, b, c⟩ := drawn_ok uo d p h.2
    refine ⟨⟨⟨h.1.1, fun x hx => ⟨(h.1.low uo x hx).1, big60 (by have := (h.1.low uo x hx).2; omega)⟩⟩, a⟩, Nat.succ_le_succ b, ?_⟩
    show p.parts + 1 + 1 ≤ _
    rw [Nat.pow_succ]
    omega
  | d + 1, .bring r p, h => by
    obtain ⟨a, b, c⟩ := drawn_ok uo d p h.2
    refine ⟨⟨⟨h.1.1, fun x hx => ⟨(h.1.low uo x hx).1, big60 (by have := (h.1.low uo x hx).2; omega)⟩⟩, a⟩, Nat.succ_le_succ b, ?_⟩
    show p.parts + 1 + 1 ≤ _
    rw [Nat.pow_succ]
    omega
  | d + 1, .either p q, h => by
    obtain ⟨a, b, c⟩ := drawn_ok uo d p h.1
    obtain ⟨a2, b2, c2⟩ := drawn_ok uo d q h.2
    refine ⟨⟨a, a2⟩, ?_, ?_⟩
    · show max p.depth q.depth + 1 ≤ _
      omega
    · show p.parts + q.parts + 1 + 1 ≤ _
      rw [Nat.pow_succ]
      omega
  | d + 1, .ours p q, h => by
    obtain ⟨a, b, c⟩ := drawn_ok uo d p h.1
    obtain ⟨a2, b2, c2⟩ := drawn_ok uo d q h.2
    refine ⟨⟨a, a2⟩, ?_, ?_⟩
    · show max p.depth q.depth + 1 ≤ _
      omega
    · show p.parts + q.parts + 1 + 1 ≤ _
      rw [Nat.pow_succ]
      omega
  | 0, .ask _ _, h => h.elim
  | 0, .bring _ _, h => h.elim
  | 0, .either _ _, h => h.elim
  | 0, .ours _ _, h => h.elim
theorem drawn_good {us : List Int} {d : Nat} {p : Plan} (uo : UOk us) (h : Drawn us d p) (hd : d ≤ 4) : GoodP us p := by
  obtain ⟨a, b, c⟩ := drawn_ok uo d p h
  have : 2 ^ (d + 1) ≤ 2 ^ 5 := Nat.pow_le_pow_right (by decide) (by omega)
  have e : (2 : Nat) ^ 5 = 32 := by decide
  exact ⟨uo, a, by omega, by omega⟩
theorem wrap_good {us : List Int} {d : Nat} {p : Plan} {r : Row} {m : Int} (uo : UOk us) (h : Drawn us d p) (hd : d ≤ 4) (hr : RowOk us m r) (hm : m ≤ 1000) : GoodP us (.ask r p) := by
  obtain ⟨a, b, c⟩ := drawn_ok uo d p h
  have : 2 ^ (d + 1) ≤ 2 ^ 5 := Nat.pow_le_pow_right (by decide) (by omega)
  have e : (2 : Nat) ^ 5 = 32 := by decide
  refine ⟨uo, ⟨⟨hr.1, fun x hx => ⟨(hr.low uo x hx).1, big60 (by have := (hr.low uo x hx).2; omega)⟩⟩, a⟩, ?_, ?_⟩
  · show p.depth + 1 ≤ 16
    omega
  · show p.parts + 1 ≤ 60
    omega
theorem row_good {us : List Int} {r : Row} {m : Int} (uo : UOk us) (hr : RowOk us m r) (hm : m ≤ 1000) : GoodR us r := ⟨hr.1, fun x hx => ⟨(hr.low uo x hx).1, big60 (by have := (hr.low uo x hx).2; omega)⟩⟩
end K40
end
section
set_option Elab.async false
set_option linter.all false
set_option autoImplicit false
set_option maxRecDepth 100000
/-! All that stock_right asks of the two lists. -/
namespace K40
open PySem PySem.Spec PyProof.Rows L2
theorem eqvAll_two : ∀ (a b : List Row), PyData.eqvAll (a.map rowD) (b.map rowD) = decide (a = b)
  | [], [] => rfl
  | [], _ :: _ => rfl
  | _ :: _, [] => rfl
  | x :: xs, y :: ys => by
    have e : PyData.eqvAll ((x :: xs).map rowD) ((y :: ys).map rowD) = (PyData.eqv (rowD x) (rowD y) && PyData.eqvAll (xs.map rowD) (ys.map rowD)) := by
      simp only [List.map_cons, PyData.eqvAll]
    rw [e, eqv_row, eqvAll_two xs ys, ← Bool.decide_and]
    simp
theorem eqv_two (a b : List Row) : PyData.eqv (.tuple (a.map rowD)) (.tuple (b.map rowD)) = decide (a = b) := eqvAll_two a b
structure StockF (us : List Int) (p : Plan) (st : Row) (As Bs : List Row) : Prop where
  eA : askedM us p st = some As
  eB : lacksM us p st = some Bs
  toA : ToldOk us As
  toB : ToldOk us Bs
  lowB : ∀ b ∈ Bs, dot b (sizesM us) ≤ 20
  neB : Bs ≠ []
  nilA : As = [] ↔ livesS us p (stair us st) = false
  zerB : Bs = [List.replicate (us.length + 1) 0] ↔ livesS us p (stair us st) = true
  anyA : ∀ r : Row, r.length = us.length + 1 → nn r → (As.any fun a => within (stair us r) (stair us a)) = livesS us (.ask r p) (stair us st)
  anyB : ∀ r : Row, r.length = us.length + 1 → nn r → (Bs.any fun b => within (stair us b) (stair us r)) = livesS us p (stair us (zadd st r))
theorem StockF.eachA {us : List Int} {p : Plan} {st : Row} {As Bs : List Row} (f : StockF us p st As Bs) {a : Row} (h : a ∈ As) : livesS us (.ask a p) (stair us st) = true := by
  rw [← f.anyA a (f.toA.ok.len a h) (f.toA.ok.pos a h), List.any_eq_true]
  exact ⟨a, h, (within_iff rfl).mpr (.refl _)⟩
theorem StockF.eachB {us : List Int} {p : Plan} {st : Row} {As Bs : List Row} (f : StockF us p st As Bs) {b : Row} (h : b ∈ Bs) : livesS us p (stair us (zadd st b)) = true := by
  rw [← f.anyB b (f.toB.ok.len b h) (f.toB.ok.pos b h), List.any_eq_true]
  exact ⟨b, h, (within_iff rfl).mpr (.refl _)⟩
theorem stock_facts {us : List Int} {d : Nat} {p : Plan} {st : Row} (uo : UOk us) (dr : Drawn us d p) (d4 : d ≤ 4) (sd : SmallD us d) (rs : RowOk us 20 st) : ∃ As Bs, StockF us p st As Bs := by
  obtain ⟨L, lo⟩ := least_ok uo.pos1 d p dr sd
  obtain ⟨As, a1, a2, a3, a4, a5, a6⟩ := asked_facts uo.pos1 lo rs.1 rs.2.1
  obtain ⟨Bs, b1, b2, b3, b4, b5, b6, b7⟩ := lacks_facts uo.pos1 sd lo rs.1 rs.2.1
  have lowB : ∀ b ∈ Bs, dot b (sizesM us) ≤ 20 := fun b hb => by
    have h := b6 b hb
    rw [stair_last (b2.len b hb)] at h
    omega
  have h40 := lo.forty uo.pos1 sd
  refine ⟨As, Bs, a1, b1, ⟨a2, fun a ha => ?_, by omega⟩, ⟨b2, fun b hb => by have := lowB b hb; omega, by omega⟩, lowB, b3, a3, b4, a4, b5⟩
  have h := last_le (a5 a ha)
  rw [stair_last (a2.len a ha), stair_last rs.1] at h
  have := rs.2.2
  omega
theorem LiveOk.succ {us : List Int} : ∀ {d : Nat} {p : Plan}, LiveOk us d p → LiveOk us (d + 1) p
  | _, .fin, _ => by unfold LiveOk; trivial
  | d + 1, .ask r p, h => ⟨h.1, LiveOk.succ h.2⟩
  | d + 1, .bring r p, h => ⟨h.1, LiveOk.succ h.2⟩
  | d + 1, .either a b, h => ⟨LiveOk.succ h.1, LiveOk.succ h.2⟩
  | d + 1, .ours a b, h => ⟨LiveOk.succ h.1, LiveOk.succ h.2⟩
  | 0, .ask _ _, h => h.elim
  | 0, .bring _ _, h => h.elim
  | 0, .either _ _, h => h.elim
  | 0, .ours _ _, h => h.elim
theorem LiveOk.up {us : List Int} {p : Plan} {d : Nat} (h : LiveOk us d p) : ∀ k, LiveOk us (d + k) p
  | 0 => h
  | k + 1 => (LiveOk.up h k).succ
theorem LiveOk.to {us : List Int} {p : Plan} {d e : Nat} (h : LiveOk us d p) (l : d ≤ e) : LiveOk us e p := by
  have := h.up (e - d)
  rwa [show d + (e - d) = e by omega] at this
end K40
end
section
set_option Elab.async false
set_option linter.all false
set_option autoImplicit false
set_option maxRecDepth 100000
set_option maxHeartbeats 4000000
/-! The law's stock_right. -/
namespace K40
open PySem PySem.Spec PyProof.Rows L2 LamX
/-- [1 for x in a tuple of rows if pr] -/
theorem lcOnes {K : PySem.W.Frag} {rs : List Row} {H : Hp} {σ : L2.St} {i : Nat} {vsl : List Nat} {tl : TE} {tt : TT} {Q : VK} (pr : Row → Bool) (hz : rs.length ≤ 1000)
    (hw : ∀ x : V, wipe ((wipe σ [i]).set i (some x)) [i] = wipe σ [i]) (hv : vsl = [i])
    (htl : ∀ R : VK, (∀ l vs, H l = some (.tup vs) → Rws H vs rs → R (.ref l) H) → tl σ H R)
    (htt : ∀ v r H' (R : Bool → Hp → Prop), r ∈ rs → Same H H' → TI H' v r → (∀ H3, Same H' H3 → R (pr r) H3) → tt ((wipe σ [i]).set i (some v)) H' R)
    (h : ∀ D H' k, Same H H' → H' D = some (.lst (List.replicate k (.int 1))) → decide (0 < k) = rs.any pr → Q (.ref D) H') :
    tLc (iTup K tl) (gName i) tt (tC (.int 1)) vsl σ H Q := by
  subst hv
  refine htl _ fun l vs hl hr => ⟨l, rfl, ⟨_, SqT.of hl⟩, fun D hD => ?_⟩
  have hlen := paired_length hr
  refine lc_it (walk_tup (K := K) (a := l) (xs := vs)) (fun k H' => Same H H' ∧ ∃ c, c ≤ k ∧ H' D = some (.lst (List.replicate c (.int 1))) ∧ decide (0 < c) = (rs.take k).any pr)
    ⟨same_upd (Same.refl H) hD, 0, Nat.le_refl _, upd_same, rfl⟩ (fun k H' _ x => SqT.of (x.1 _ _ hl)) ?_ ?_
  · rintro k v H2 H' hk ⟨s2, c, hc, hd, ha⟩ ⟨rfl, hx⟩
    obtain ⟨r, hri, tr⟩ := hr.nth hx
    have hm : r ∈ rs := List.mem_iff_getElem?.mpr ⟨k, hri⟩
    have tk : (rs.take (k + 1)).any pr = ((rs.take k).any pr || pr r) := by
      rw [take_snoc hri, List.any_append, List.any_cons, List.any_nil, Bool.or_false]
    refine ⟨hw v, htt v r _ _ hm s2 (tr.same s2) fun H3 s3 => ?_⟩
    have s13 : Same H H3 := s2.trans s3
    have hd3 := s3 _ _ hd
    by_cases c1 : pr r = true
    · rw [if_pos c1]
      refine ⟨_, hd3, ?_, same_upd s13 hD, c + 1, by omega, ?_, ?_⟩
      · rw [List.length_replicate]
        exact size_small (by omega)
      · rw [upd_same, ← List.replicate_succ']
      · rw [tk, c1, Bool.or_true]
        exact decide_eq_true (by omega)
    · rw [if_neg c1]
      refine ⟨s13, c, by omega, hd3, ?_⟩
      rw [tk, Bool.eq_false_iff.mpr c1, Bool.or_false]
      exact ha
  · rintro H2 ⟨s2, c, hc, hd, ha⟩
    rw [hlen, List.take_length] at ha
    exact h D H2 c s2 hd ha
theorem SeenAt.notTbl {P : Program} {w : World} {H : Hp} {D : Addr} {m : List (SKey × V)} (h : SeenAt P w H D m) : ∀ ps, H D ≠ some (.tbl ps) := fun ps z => by
  obtain ⟨ys, h1 | ⟨_, h1⟩, h2⟩ := h
  · rw [h1] at z
    unfold SeenH at z
    cases z
  · rw [h1] at z
    cases z
theorem SeenAt.neK {P : Program} {w : World} {H : Hp} {D l : Addr} {m : List (SKey × V)} {kvs : List (Key × V)} (h : SeenAt P w H D m) (e : H l = some (.dK kvs)) : l ≠ D := fun z => by
  subst z
  obtain ⟨ys, h1 | ⟨_, h1⟩, h2⟩ := h
  · rw [h1] at e
    unfold SeenH at e
    cases e
  · rw [h1] at e
    cases e
theorem heap_of : ∀ n : Nat, ∃ h : Heap, h.objs.size = n ∧ ∀ b o, h.get? b = some o → ∃ vs, o.data = .fields vs
  | 0 => ⟨{ objs := #[] }, rfl, fun b o e => by
    have := Heap.lt_size e
    exact absurd this (Nat.not_lt_zero _)⟩
  | n + 1 => by
    obtain ⟨h, e, all⟩ := heap_of n
    refine ⟨h.push { cls := .none, data := .fields #[] }, by simp [Heap.push, e], fun b o q => ?_⟩
    rcases Heap.get?_push_cases q with ⟨_, rfl⟩ | q
    · exact ⟨_, rfl⟩
    · exact all b o q
/-- the dict of what is seen is no code object -/
theorem seen_code {P : Program} {w : World} {D c : Addr} {q : Str} {xs : List (NestedKey × Addr × Value)} (e : SeenH P w D xs = CodeO c q) : False := by
  unfold SeenH CodeO at e
  injection e with e
  obtain ⟨h, hs, all⟩ := heap_of c
  have g : (h.push { cls := .none, data := .fields #[.none, .str q 0] }).get? c = some { cls := .none, data := .fields #[.none, .str q 0] } := by
    rw [← hs]
    exact Heap.get?_push_size _ rfl
  have z := congrFun e (h.push { cls := .none, data := .fields #[.none, .str q 0] })
  have t : ∃ (oc : Obj) (vs : Array Value) (t : Tok), (h.push { cls := .none, data := .fields #[.none, .str q 0] }).get? c = some oc ∧ oc.data = .fields vs ∧ vs[1]? = some (.str q t) := ⟨_, _, 0, g, rfl, rfl⟩
  rw [← z] at t
  obtain ⟨_, _, o, es, ep, h1, _, h3, _⟩ := t
  rcases Heap.get?_push_cases h1 with ⟨_, rfl⟩ | h1
  · cases h3
  · obtain ⟨vs, e2⟩ := all _ _ h1
    rw [e2] at h3
    cases h3
/-- the state of the law: draws, what is seen, tables -/
structure LawSt (P : Program) (w : World) (TT : List (Addr × Str)) (S C Lf D : Addr) (us : List Int) (p : Plan) (n : Int) (m : List (SKey × V)) (H : Hp) : Prop where
  tabs : Tabs TT H
  st : St S C Lf n H
  sa : SeenAt P w H D m
  so : SeenOk us p m
section
variable {P : Program} {w : World} {TT : List (Addr × Str)} {S C Lf D : Addr} {us : List Int} {p : Plan} {n : Int} {m : List (SKey × V)} {H H' : Hp}
theorem LawSt.neS (l : LawSt P w TT S C Lf D us p n m H) : S ≠ D ∧ C ≠ D ∧ Lf ≠ D := by
  obtain ⟨cells, lefts, h1, h2, h3, _⟩ := l.st
  exact ⟨l.sa.neK h1, l.sa.neL h2, l.sa.neL h3⟩
theorem LawSt.tups (l : LawSt P w TT S C Lf D us p n m H) (g : Gr TT [S, Lf, D] H H') : TupsStay H H' := by
  obtain ⟨cells, lefts, h1, h2, h3, _⟩ := l.st
  refine g.tups fun b hb xs z => ?_
  simp only [List.mem_cons, List.not_mem_nil, or_false] at hb
  rcases hb with rfl | rfl | rfl
  · rw [h1] at z; cases z
  · rw [h3] at z; cases z
  · exact l.sa.notTup xs z
/-- a call that changes nothing but tables -/
theorem LawSt.calm (l : LawSt P w TT S C Lf D us p n m H) (g : Gr TT [] H H') : LawSt P w TT S C Lf D us p n m H' ∧ Gr TT [S, Lf, D] H H' := by
  obtain ⟨cells, lefts, h1, h2, h3, r⟩ := l.st
  obtain ⟨o, ho⟩ := l.sa.there
  have hD : H' D = H D := by
    rw [ho]
    exact g.keep D o ho (fun ps z => l.sa.notTbl ps (by rw [ho, z])) (by simp)
  exact ⟨⟨g.tabs l.tabs, ⟨cells, lefts, g.keep S _ h1 (fun _ z => by cases z) (by simp), g.keep C _ h2 (fun _ z => by cases z) (by simp), g.keep Lf _ h3 (fun _ z => by cases z) (by simp), r⟩, l.sa.mono (.gr g) hD, l.so⟩, g.more⟩
theorem LawSt.same (l : LawSt P w TT S C Lf D us p n m H) (e : Same H H') : LawSt P w TT S C Lf D us p n m H' ∧ Gr TT [S, Lf, D] H H' := l.calm (.of e)
/-- a draw -/
theorem LawSt.draw {n' : Int} (l : LawSt P w TT S C Lf D us p n m H) (g : Gr TT [S, Lf] H H') (st : St S C Lf n' H') : LawSt P w TT S C Lf D us p n' m H' ∧ Gr TT [S, Lf, D] H H' := by
  obtain ⟨nS, nC, nL⟩ := l.neS
  obtain ⟨o, ho⟩ := l.sa.there
  have hD : H' D = H D := by
    rw [ho]
    refine g.keep D o ho (fun ps z => l.sa.notTbl ps (by rw [ho, z])) ?_
    simp only [List.mem_cons, List.not_mem_nil, or_false, not_or]
    exact ⟨Ne.symm nS, Ne.symm nL⟩
  exact ⟨⟨g.tabs l.tabs, st, l.sa.mono (l.st.tups g) hD, l.so⟩, g.wide fun b hb => by simp at hb ⊢; rcases hb with h | h <;> simp [h]⟩
/-- live -/
theorem LawSt.live {m' : List (SKey × V)} (l : LawSt P w TT S C Lf D us p n m H) (e : Sb D H H') (sa : SeenAt P w H' D m') (so : SeenOk us p m') : LawSt P w TT S C Lf D us p n m' H' ∧ Gr TT [S, Lf, D] H H' := by
  obtain ⟨nS, nC, nL⟩ := l.neS
  obtain ⟨cells, lefts, h1, h2, h3, r⟩ := l.st
  have g : Gr TT [D] H H' := by
    refine .but (fun b o m e2 => e b o (fun z => m (by simp [z])) e2) (fun b hb ps z => ?_) (fun b hb c q z => ?_)
    · simp at hb
      subst hb
      exact l.sa.notTbl ps z
    · simp at hb
      subst hb
      obtain ⟨ys, k1 | ⟨_, k1⟩, _⟩ := l.sa
      · rw [k1] at z
        exact seen_code (Option.some.inj z)
      · rw [k1] at z
        unfold CodeO at z
        cases z
  exact ⟨⟨g.tabs l.tabs, ⟨cells, lefts, e _ _ nS h1, e _ _ nC h2, e _ _ nL h3, r⟩, sa, so⟩, g.wide fun b hb => by simp at hb ⊢; simp [hb]⟩
end
theorem TI.ref {H : Hp} {a : Addr} {ns : Row} (h : TI H (.ref a) ns) : H a = some (.tup (ns.map V.int)) := by
  obtain ⟨_, e, h⟩ := h
  cases e
  exact h
theorem TR.ref {H : Hp} {a : Addr} {rs : List Row} (h : TR H (.ref a) rs) : ∃ vs, H a = some (.tup vs) ∧ Rws H vs rs := by
  obtain ⟨_, vs, e, h⟩ := h
  cases e
  exact ⟨vs, h⟩
theorem ti_nil {H : Hp} {a : Addr} (h : H a = some (.tup [])) : TI H (.ref a) [] := ⟨a, rfl, h⟩
theorem tr_nil {H : Hp} {a : Addr} (h : H a = some (.tup [])) : TR H (.ref a) [] := ⟨a, [], rfl, h, .nil⟩
/-- what stands in stock_right once the two lists are told -/
structure StandR (H : Hp) (v2 v3 v4 : V) (ta tb : Addr) (us : List Int) (p : Plan) (st : Row) (As Bs : List Row) : Prop where
  u : TI H v2 us
  pl : p.At H v3
  st : TI H v4 st
  a : TR H (.ref ta) As
  b : TR H (.ref tb) Bs
theorem StandR.mono {H H' : Hp} {v2 v3 v4 : V} {ta tb : Addr} {us : List Int} {p : Plan} {st : Row} {As Bs : List Row} (h : StandR H v2 v3 v4 ta tb us p st As Bs) (e : TupsStay H H') : StandR H' v2 v3 v4 ta tb us p st As Bs :=
  ⟨h.u.mono e, h.pl.mono e, h.st.mono e, h.a.mono e, h.b.mono e⟩
theorem ones_dp {K : PySem.W.Frag} {H : Hp} {l : Addr} {k : Nat} (h : H l = some (.lst (List.replicate k (.int 1)))) : Dp K H (.ref l) (.list ((List.replicate k (1 : Int)).map .int)) := by
  have e : List.replicate k (V.int 1) = (List.replicate k (1 : Int)).map V.int := by rw [List.map_replicate]
  rw [e] at h
  exact .lst (SqL.of h) (dpAll_ints _)
theorem ones_eqv (k : Nat) : (!PyData.eqv (.list ((List.replicate k (1 : Int)).map .int)) (.list [])) = decide (0 < k) := by
  cases k with
  | zero => rfl
  | succ k =>
    rw [List.replicate_succ, List.map_cons]
    simp [PyData.eqv, PyData.eqvAll]
theorem live_p {P : Program} {w : World} {TT : List (Addr × Str)} {S C Lf D : Addr} {us : List Int} {p : Plan} {n : Int} {m : List (SKey × V)} {H : Hp} {v2 v3 v4 v5 : V} {d : Nat} {st : Row} (l : LawSt P w TT S C Lf D us p n m H)
    (hu : TI H v2 us) (hp : p.At H v3) (he : TI H v5 []) (hs : TI H v4 st) (uo : UOk us) (two : us.length ≤ 2) (dr : Drawn us d p) (d4 : d ≤ 4) (gp : GoodP us p) (ln : st.length = us.length + 1) (nn : ∀ y ∈ st, 0 ≤ y) (val : dot st (sizesM us) ≤ 40) :
    LiveP P w 5 H v2 v3 v5 v4 D us p p [] st m (10 ^ 60) :=
  ⟨hu, hp, he, hs, l.sa, l.so, uo, two, by have := (drawn_ok uo d p dr).2.1; omega, rfl, (LiveOk.of dr).to (by omega), gp.ok, ln, nn, by have : ((5 : Nat) : Int) = 5 := rfl; omega⟩
theorem live_q {P : Program} {w : World} {E : Addr} {us : List Int} {p : Plan} {H : Hp} {v2 v3 v4 v5 : V} {d : Nat} {st r : Row} {i : Int} (hE : H E = some (.dT []))
    (hu : TI H v2 us) (hp : (Plan.ask r p).At H v3) (he : TI H v5 []) (hs : TI H v4 st) (uo : UOk us) (two : us.length ≤ 2) (dr : Drawn us d p) (d4 : d ≤ 4) (rr : RowOk us i r) (hi : i ≤ 1000) (ln : st.length = us.length + 1) (nn : ∀ y ∈ st, 0 ≤ y) (val : dot st (sizesM us) ≤ 40) :
    LiveP P w 5 H v2 v3 v5 v4 E us (.ask r p) (.ask r p) [] st [] (10 ^ 60) :=
  ⟨hu, hp, he, hs, SeenAt.nil hE, .nil, uo, two, by have := (drawn_ok uo d p dr).2.1; show p.depth + 1 ≤ 6; omega, rfl, ⟨⟨rr.1, rr.2.1⟩, (LiveOk.of dr).to d4⟩, (wrap_good uo dr d4 rr hi).ok, ln, nn, by have : ((5 : Nat) : Int) = 5 := rfl; omega⟩
/-- a dict of its own is out of the way -/
theorem same_side {H H1 H2 : Hp} {E : Addr} {o : HO} (n : H E = none) (e : H1 = upd H E o) (s : Sb E H1 H2) : Same H H2 := fun b u h => by
  have nb : b ≠ E := ne_of_none h n
  refine s b u nb ?_
  rw [e, upd_ne nb]
  exact h
def spStock (P : Program) (w : World) (TT : List (Addr × Str)) : Sp := fun vs H Q _ => ∃ (S C Lf D : Addr) (v2 v3 v4 : V) (us : List Int) (d : Nat) (p : Plan) (st : Row) (m : List (SKey × V)) (n : Int),
  vs = [.ref S, v2, v3, v4, .ref D] ∧ LawSt P w TT S C Lf D us p n m H ∧ n ≤ 700000 ∧ TI H v2 us ∧ p.At H v3 ∧ TI H v4 st ∧ UOk us ∧ us.length ≤ 2 ∧ Drawn us d p ∧ d ≤ 4 ∧ SmallD us d ∧ RowOk us 20 st ∧
  ∀ H' m' n', Gr TT [S, Lf, D] H H' → LawSt P w TT S C Lf D us p n' m' H' → n' ≤ n + 15 → Q (.bl true) H'
section
variable {P : Program} {w : World} {K : PySem.W.Frag} {mg : Str → Option Value} {base : Heap}
theorem scWStockRight : FnScope ["_law_state", "_law_units_so", "_law_plan_so", "_law_stock", "_law_seen", "_law_asked", "_law_lacks", "_law_due", "_law_step", "_law_row_here", "_law_good", "_law_most", "_law_least"] ["_law_state", "_law_units_so", "_law_plan_so", "_law_stock", "_law_seen"] (defScope sWStockRight) := ⟨rfl, rfl, rfl, by decide +kernel, rfl, by decide +kernel, by decide +kernel⟩
theorem ok_wStockRight (T : Wt K mg) (TB : TabB base mg T.cN T.pN) : FnG P w K mg base (L2.CX P w) 26 T.wStockRight.f T.wStockRight.fd ["_law_state", "_law_units_so", "_law_plan_so", "_law_stock", "_law_seen"] (spStock P w (T0 T)) := by
  have GStillAsked := ok_stillAsked (P := P) (w := w) T TB
  have GPlanLacks := ok_planLacks (P := P) (w := w) T TB
  have GLives := ok_lives (P := P) (w := w) T TB
  have GWLike := ok_wLike (P := P) (w := w) (base := base) T.toWd
  have GWListRight := ok_wListRight (P := P) (w := w) (base := base) T.toWd
  have GWFits := ok_wFits (P := P) (w := w) (base := base) T.toWd
  have GWLive := ok_wLive (P := P) (w := w) (base := base) T.toWd 5
  have GWRow := ok_wRow (P := P) (w := w) (base := base) (TT := T0 T) T.toWd
  have GWBeside : FnOk P w K mg base CX0 1 T.wBeside.f T.wBeside.fd ["_law_one", "_law_other"] (spZip fun x y => x + y) := ok_wBeside T.toWd
  refine okG T.wStockRight.F scWStockRight (fun vs H Q E h => ?_) (fun cdv A outer s H vs Q E hg hr h => ⟨_, (pss_cons (ps_par (i := 5) (j := 6) rfl scWStockRight.nd rfl rfl (by decide) rfl rfl (pa_cons (pe_call GStillAsked (hr.mono (by first | decide | omega)) rfl T.stillAsked.g T.stillAsked.F.kp T.stillAsked.b .nil (passes_call (takes_of rfl rfl rfl rfl) (fun _ _ _ _ z => z)) (pa_cons (pv 1) (pa_cons (pv 2) (pa_cons (pv 3) pa_nil)))) (pa_cons (pe_call GPlanLacks (hr.mono (by first | decide | omega)) rfl T.planLacks.g T.planLacks.F.kp T.planLacks.b .nil (passes_call (takes_of rfl rfl rfl rfl) (fun _ _ _ _ z => z)) (pa_cons (pv 1) (pa_cons (pv 2) (pa_cons (pv 3) pa_nil)))) pa_nil)) rfl)
 (pss_cons (ps_if (PW.pt (pw_or (pt_not (pt_val (pe_call GWListRight (hr.mono (by first | decide | omega)) rfl T.wListRight.g T.wListRight.F.kp T.wListRight.b .nil pass0 (pa_cons (pv 1) (pa_cons (pv 5) pa_nil))))) (pw_or (pt_not (pt_val (pe_call GWListRight (hr.mono (by first | decide | omega)) rfl T.wListRight.g T.wListRight.F.kp T.wListRight.b .nil pass0 (pa_cons (pv 1) (pa_cons (pv 6) pa_nil))))) (pw_or1 (pt_cmpR (op_eqD (hu64_of hr)) (pv 6) (pe_tup pa_nil) (nomark _)))))) (pss_one (ps_ret pe_bl)) pss_nil)
 (pss_cons (ps_set (i := 7) scWStockRight.nd rfl (.inl rfl) (pe_call GWLive (hr.mono (by first | decide | omega)) rfl T.wLive.g T.wLive.F.kp T.wLive.b .nil pass0 (pa_cons (pv 1) (pa_cons (pv 2) (pa_cons (pe_tup pa_nil) (pa_cons (pv 3) (pa_cons (pv 4) pa_nil)))))))
 (pss_cons (ps_if (PW.pt (pw_or (pt_cmpR op_eq (pe_cmpR (op_eqD (hu64_of hr)) (pv 5) (pe_tup pa_nil) (nomark _)) (pv 7) (nomark _)) (pw_or1 (pt_cmpR op_ne (pe_cmpR (op_eqD (hu64_of hr)) (pv 6) (pe_tup (pa_cons (pe_op op_repA (pe_tup (pa_cons pe_int pa_nil)) (pe_callB call_len_seq (by rfl) T.nLen (by decide +kernel) (pa_cons (pv 3) pa_nil))) pa_nil)) (nomark _)) (pv 7) (nomark _))))) (pss_one (ps_ret pe_bl)) pss_nil)
 (pss_cons (ps_for (passes_of rfl) rfl (pi_range1 rfl T.nRange (pa_cons pe_int pa_nil)) (pg_name (i := 8) scWStockRight.nd rfl (.inl rfl)) (pss_cons (ps_set (i := 9) scWStockRight.nd rfl (.inr rfl) (pe_call GWRow (hr.mono (by first | decide | omega)) rfl T.wRow.g T.wRow.F.kp T.wRow.b .nil pass0 (pa_cons (pv 0) (pa_cons (pv 1) (pa_cons pe_int pa_nil)))))
 (pss_cons (ps_set (i := 10) scWStockRight.nd rfl (.inl rfl) (pe_call GWLive (hr.mono (by first | decide | omega)) rfl T.wLive.g T.wLive.F.kp T.wLive.b .nil pass0 (pa_cons (pv 1) (pa_cons (pe_tup (pa_cons pe_str (pa_cons (pv 9) (pa_cons (pv 2) pa_nil)))) (pa_cons (pe_tup pa_nil) (pa_cons (pv 3) (pa_cons pe_dnewT pa_nil)))))))
 (pss_cons (ps_if (pt_cmpR op_ne (pv 10) (pe_cmpR (op_neD (hu64_of hr)) (pe_lc (g := (gName 11)) (own := [("_law_most", 11)]) rfl scWStockRight.nd  (pi_tup (pv 5)) (blkOk_by (N := ["_law_state", "_law_units_so", "_law_plan_so", "_law_stock", "_law_seen", "_law_asked", "_law_lacks", "_law_due", "_law_step", "_law_row_here", "_law_good", "_law_most", "_law_least"]) (sc := defScope sWStockRight) (by decide +kernel)) (fun _ _ _ _ _ => (pg_name (i := 11) scWStockRight.nd rfl (.inl rfl))) (fun _ _ _ _ _ => pts_one (pt_val (pe_call GWFits (hr.mono (by first | decide | omega)) rfl T.wFits.g T.wFits.F.kp T.wFits.b .nil pass0 (pa_cons (pv 1) (pa_cons (pv 9) (pa_cons (pv 11) pa_nil)))))) (fun _ _ _ _ _ => pe_int)) (pe_lst pa_nil) (nomark _)) (nomark _)) (pss_one (ps_ret pe_bl)) pss_nil)
 (pss_cons (ps_if (pt_not (pt_val (pe_callG hg GWLike (hr.mono (by first | decide | omega)) rfl T.wLike.g T.wLike.F.kp T.wLike.b .nil passL (pa_cons (pe_call GLives (hr.mono (by first | decide | omega)) rfl T.lives.g T.lives.F.kp T.lives.b .nil (passes_call (takes_of rfl rfl rfl rfl) (fun _ _ _ _ z => z)) (pa_cons (pv 1) (pa_cons (pe_tup (pa_cons pe_str (pa_cons (pv 9) (pa_cons (pv 2) pa_nil)))) (pa_cons (pv 3) pa_nil)))) (pa_cons (pv 10) pa_nil))))) (pss_one (ps_ret pe_bl)) pss_nil)
 (pss_cons (ps_set (i := 10) scWStockRight.nd rfl (.inl rfl) (pe_call GWLive (hr.mono (by first | decide | omega)) rfl T.wLive.g T.wLive.F.kp T.wLive.b .nil pass0 (pa_cons (pv 1) (pa_cons (pv 2) (pa_cons (pe_tup pa_nil) (pa_cons (pe_call GWBeside (hr.mono (by first | decide | omega)) rfl T.wBeside.g T.wBeside.F.kp T.wBeside.b .nil pass0 (pa_cons (pv 3) (pa_cons (pv 9) pa_nil))) (pa_cons (pv 4) pa_nil)))))))
 (pss_one (ps_if (pt_cmpR op_ne (pv 10) (pe_cmpR (op_neD (hu64_of hr)) (pe_lc (g := (gName 12)) (own := [("_law_least", 12)]) rfl scWStockRight.nd  (pi_tup (pv 6)) (blkOk_by (N := ["_law_state", "_law_units_so", "_law_plan_so", "_law_stock", "_law_seen", "_law_asked", "_law_lacks", "_law_due", "_law_step", "_law_row_here", "_law_good", "_law_most", "_law_least"]) (sc := defScope sWStockRight) (by decide +kernel)) (fun _ _ _ _ _ => (pg_name (i := 12) scWStockRight.nd rfl (.inl rfl))) (fun _ _ _ _ _ => pts_one (pt_val (pe_call GWFits (hr.mono (by first | decide | omega)) rfl T.wFits.g T.wFits.F.kp T.wFits.b .nil pass0 (pa_cons (pv 1) (pa_cons (pv 12) (pa_cons (pv 9) pa_nil)))))) (fun _ _ _ _ _ => pe_int)) (pe_lst pa_nil) (nomark _)) (nomark _)) (pss_one (ps_ret pe_bl)) pss_nil))))))))
 (pss_cons (ps_for (passes_of rfl) rfl (pi_tup (pv 5)) (pg_name (i := 9) scWStockRight.nd rfl (.inr rfl)) (pss_one (ps_if (pt_cmpR op_notBl (pe_call GLives (hr.mono (by first | decide | omega)) rfl T.lives.g T.lives.F.kp T.lives.b .nil (passes_call (takes_of rfl rfl rfl rfl) (fun _ _ _ _ z => z)) (pa_cons (pv 1) (pa_cons (pe_tup (pa_cons pe_str (pa_cons (pv 9) (pa_cons (pv 2) pa_nil)))) (pa_cons (pv 3) pa_nil)))) pe_bl (nomark _)) (pss_one (ps_ret pe_bl)) pss_nil)))
 (pss_cons (ps_for (passes_of rfl) rfl (pi_tup (pv 6)) (pg_name (i := 9) scWStockRight.nd rfl (.inr rfl)) (pss_one (ps_if (pt_not (pt_val (pe_call GWLive (hr.mono (by first | decide | omega)) rfl T.wLive.g T.wLive.F.kp T.wLive.b .nil pass0 (pa_cons (pv 1) (pa_cons (pv 2) (pa_cons (pe_tup pa_nil) (pa_cons (pe_call GWBeside (hr.mono (by first | decide | omega)) rfl T.wBeside.g T.wBeside.F.kp T.wBeside.b .nil pass0 (pa_cons (pv 3) (pa_cons (pv 9) pa_nil))) (pa_cons (pv 4) pa_nil)))))))) (pss_one (ps_ret pe_bl)) pss_nil)))
 (pss_one (ps_ret pe_bl))))))))), ?_⟩)
  · obtain ⟨S, C, Lf, D, v2, v3, v4, us, d, p, st, m, n, rfl, _⟩ := h
    rfl
  obtain ⟨S, C, Lf, D, v2, v3, v4, us, d, p, st, m, n, rfl, l, hn, hu, hp, hs, uo, two, dr, d4, sd, rs, k⟩ := h
  obtain ⟨ss, rfl, _⟩ := id hs
  obtain ⟨As, Bs, f⟩ := stock_facts uo dr d4 sd rs
  have gp := drawn_good uo dr d4
  have gr := row_good uo rs (by decide)
  have rs1 := rs.1
  have rs3 := rs.2.2
  refine ⟨_, rfl, _, rfl, _, rfl, v2, v3, .ref ss, rfl, l.tabs, us, hu, .inr (.inr ⟨p, st, hp, hs, gp, .inr ⟨gr, fun R e1 H1 t1 g1 tr1 => ?_, fun e1 => by rw [f.eA] at e1; cases e1⟩⟩)⟩
  rw [f.eA] at e1
  cases e1
  obtain ⟨l1, gg1⟩ := l.calm g1
  have u1 := TupsStay.gr g1
  refine ⟨_, rfl, _, rfl, _, rfl, v2, v3, .ref ss, rfl, l1.tabs, us, hu.mono u1, .inr (.inr ⟨p, st, hp.mono u1, hs.mono u1, gp, .inr ⟨gr, fun R e2 H2 t2 g2 tr2 => ?_, fun e2 => by rw [f.eB] at e2; cases e2⟩⟩)⟩
  rw [f.eB] at e2
  cases e2
  obtain ⟨l2, gg2⟩ := l1.calm g2
  have u2 := TupsStay.gr g2
  obtain ⟨ta, va, rfl, hta, hA⟩ := tr1.mono u2
  obtain ⟨tb, vb, rfl, htb, hB⟩ := tr2
  have x2 : StandR H2 v2 v3 (.ref ss) ta tb us p st As Bs := ⟨(hu.mono u1).mono u2, (hp.mono u1).mono u2, (hs.mono u1).mono u2, ⟨ta, va, rfl, hta, hA⟩, ⟨tb, vb, rfl, htb, hB⟩⟩
  have g02 := gg1.trans gg2
  refine ⟨_, _, rfl, ?_⟩
  refine ⟨_, rfl, _, rfl, v2, .ref ta, us, As, rfl, x2.u, x2.a, uo, two, f.toA, fun H3 v s3 e => ?_⟩
  subst e
  refine ⟨true, rfl, iteF ?_⟩
  have x3 := x2.mono (.of s3)
  refine ⟨_, rfl, _, rfl, v2, .ref tb, us, Bs, rfl, x3.u, x3.b, uo, two, f.toB, fun H4 v s4 e => ?_⟩
  subst e
  refine ⟨true, rfl, iteF ?_⟩
  have x4 := x3.mono (.of s4)
  refine ⟨_, rfl, by show 0 ≤ sizeLine; decide, fun e1 ne1 => ?_⟩
  have s5 := same_new ne1 (.tup [])
  have he1 := upd_same (H := H4) (a := e1) (o := .tup [])
  generalize upd H4 e1 (.tup []) = H5 at s5 he1 ⊢
  have x5 := x4.mono (.of s5)
  refine ⟨_, _, x5.b.dp, (tr_nil he1).dp, shaped_rowsT Bs, shaped_rowsT [], _, rfl, ?_⟩
  rw [eqv_two, decide_eq_false f.neB]
  refine iteF ?_
  obtain ⟨l5, g25⟩ := l2.same ((s3.trans s4).trans s5)
  have g05 := g02.trans g25
  refine ⟨_, rfl, _, rfl, by show 0 ≤ sizeLine; decide, fun e2 ne2 => ?_⟩
  have s6 := same_new ne2 (.tup [])
  have he2 := upd_same (H := H5) (a := e2) (o := .tup [])
  generalize upd H5 e2 (.tup []) = H6 at s6 he2 ⊢
  have x6 := x5.mono (.of s6)
  obtain ⟨l6, g56⟩ := l5.same s6
  refine ⟨_, rfl, _, rfl, v2, v3, .ref e2, .ref ss, D, us, p, p, [], st, m, 10 ^ 60, rfl, live_p l6 x6.u x6.pl (ti_nil he2) x6.st uo two dr d4 gp rs.1 rs.2.1 (by omega), fun H7 m7 sb7 sa7 so7 => ?_⟩
  obtain ⟨l7, g67⟩ := l6.live sb7 sa7 so7
  have x7 := x6.mono (l6.tups g67)
  have g07 := (g05.trans g56).trans g67
  have nilA := f.nilA
  have zerB := f.zerB
  generalize livesS us p (stair us st) = due at nilA zerB ⊢
  refine ⟨_, rfl, by show 0 ≤ sizeLine; decide, fun e3 ne3 => ?_⟩
  have s8 := same_new ne3 (.tup [])
  have he3 := upd_same (H := H7) (a := e3) (o := .tup [])
  generalize upd H7 e3 (.tup []) = H8 at s8 he3 ⊢
  have x8 := x7.mono (.of s8)
  refine ⟨_, _, x8.a.dp, (tr_nil he3).dp, shaped_rowsT As, shaped_rowsT [], _, rfl, rfl, _, rfl, ?_⟩
  have q1 : decide (V.bl (PyData.eqv (.tuple (As.map rowD)) (.tuple (([] : List Row).map rowD))) = V.bl due) = false := by
    rw [eqv_two, dec_bl]
    cases due with
    | false => simpa using nilA.mpr rfl
    | true => simpa using fun z => by have := nilA.mp z; cases this
  rw [q1]
  refine iteF ?_
  refine ⟨_, rfl, by show 1 ≤ sizeLine; decide, fun e4 ne4 => ?_⟩
  have s9 := same_new ne4 (.tup [.int 0])
  have he4 := upd_same (H := H8) (a := e4) (o := .tup [.int 0])
  generalize upd H8 e4 (.tup [.int 0]) = H9 at s9 he4 ⊢
  have x9 := x8.mono (.of s9)
  refine ⟨_, rfl, ss, _, rfl, .inr (SqT.of x9.st.ref), e4, _, _, rfl, rfl, he4, by simp, ?_, ?_, by simp, fun H10 q s10 hq => ?_⟩
  · rw [List.length_map]
    omega
  · rw [List.length_map]
    omega
  refine ⟨by show 1 ≤ sizeLine; decide, fun e5 ne5 => ?_⟩
  have s11 := same_new ne5 (.tup [.ref q])
  have he5 := upd_same (H := H10) (a := e5) (o := .tup [.ref q])
  generalize upd H10 e5 (.tup [.ref q]) = H11 at s11 he5 ⊢
  have x11 := x9.mono (.of (s10.trans s11))
  have z11 : TR H11 (.ref e5) [List.replicate (us.length + 1) 0] := by
    refine ⟨e5, _, rfl, he5, .cons ⟨q, rfl, ?_⟩ .nil⟩
    rw [s11 _ _ hq, List.length_map, rs1, show ((us.length + 1 : Nat) : Int).toNat = us.length + 1 by omega]
    congr 2
    simp
  refine ⟨_, _, x11.b.dp, z11.dp, shaped_rowsT Bs, shaped_rowsT _, _, rfl, rfl, _, rfl, ?_⟩
  have q2 : decide (V.bl (PyData.eqv (.tuple (Bs.map rowD)) (.tuple ([List.replicate (us.length + 1) 0].map rowD))) = V.bl due) = true := by
    rw [eqv_two, dec_bl]
    cases due with
    | true => simpa using zerB.mpr rfl
    | false => simpa using fun z => by have := zerB.mp z; cases this
  rw [q2]
  refine iteF ?_
  obtain ⟨l11, g711⟩ := l7.same (((s8.trans s9).trans s10).trans s11)
  have g11 := g07.trans g711
  refine ⟨_, rfl, by decide, by decide, for_range (lo := 0) (n := 3) (fun i σ H' => ∃ v8 v9 v10 mi ni, σ = [some (.ref S), some v2, some v3, some (.ref ss), some (.ref D), some (.ref ta), some (.ref tb), some (.bl due), v8, v9, v10, none, none] ∧ Gr (T0 T) [S, Lf, D] H11 H' ∧ LawSt P w (T0 T) S C Lf D us p ni mi H' ∧ ni ≤ n + 5 * (i : Int))
    ⟨none, none, none, m7, n, rfl, Gr.refl H11, l11, by omega⟩ ?_ ?_⟩
  · rintro i σ Hi hi ⟨v8, v9, v10, mi, ni, rfl, gi, li, lni⟩
    have xi := x11.mono (l11.tups gi)
    refine ⟨_, rfl, _, rfl, S, C, Lf, ni, 8, v2, us, rfl, li.st, by omega, xi.u, uo, by decide, by decide, fun J1 rv r n2 rok gr1 st2 n2l hrv => ?_⟩
    obtain ⟨lj1, gj1⟩ := li.draw gr1 st2
    have y1 := xi.mono (li.tups gj1)
    obtain ⟨rr, rfl, _⟩ := id hrv
    have rk1 := rok.1
    have rk3 := rok.2.2
    refine ⟨_, rfl, _, rfl, _, rfl, by show 3 ≤ sizeLine; decide, fun t nt => ?_⟩
    have z1 := same_new nt (.tup [.str "ask", .ref rr, v3])
    have ht := upd_same (H := J1) (a := t) (o := .tup [.str "ask", .ref rr, v3])
    generalize upd J1 t (.tup [.str "ask", .ref rr, v3]) = J2 at z1 ht ⊢
    refine ⟨by show 0 ≤ sizeLine; decide, fun e ne => ?_⟩
    have z2 := same_new ne (.tup [])
    have he := upd_same (H := J2) (a := e) (o := .tup [])
    generalize upd J2 e (.tup []) = J3 at z2 he ⊢
    refine ⟨_, rfl, fun E nE => ?_⟩
    have hE := upd_same (H := J3) (a := E) (o := .dT [])
    have z3 := same_new nE (.dT [])
    have z123 := (z1.trans z2).trans z3
    have y4 := y1.mono (.of z123)
    have hrv4 := hrv.mono (.of z123)
    have pat : (Plan.ask r p).At (upd J3 E (.dT [])) (.ref t) := ⟨t, .ref rr, v3, rfl, z3 _ _ (z2 _ _ ht), hrv4, y4.pl⟩
    refine ⟨v2, .ref t, .ref e, .ref ss, E, us, .ask r p, .ask r p, [], st, [], 10 ^ 60, rfl, live_q hE y4.u pat (ti_nil (z3 _ _ he)) y4.st uo two dr d4 rok (by decide) rs.1 rs.2.1 (by omega), fun J5 m5 sb5 sa5 so5 => ?_⟩
    have z5 := same_side nE rfl sb5
    have z15 := (z1.trans z2).trans z5
    obtain ⟨lj5, gj5⟩ := lj1.same z15
    have y5 := y1.mono (.of z15)
    have hrv5 := hrv.mono (.of z15)
    obtain ⟨va5, hta5, hA5⟩ := y5.a.ref
    refine ⟨_, rfl, ?_⟩
    refine lcOnes (K := K) (i := 11) (rs := As) (fun a => within (stair us r) (stair us a)) f.toA.few (fun _ => rfl) rfl (fun R z => ⟨_, rfl, z ta va5 hta5 hA5⟩) (fun v a H' R hm s t z => ⟨_, rfl, _, rfl, _, rfl, v2, .ref rr, v, us, r, a, rfl, y5.u.mono (.of s), hrv5.mono (.of s), t, ⟨uo, two, f.toA.ok.len a hm, f.toA.ok.pos a hm, f.toA.low a hm⟩, ⟨rok.1, rok.2.1⟩, fun H3 v s3 e => ⟨_, e, z H3 s3⟩⟩) fun L1 J6 kk z6 hl hk => ?_
    refine ⟨by show 0 ≤ sizeLine; decide, fun e6 ne6 => ?_⟩
    have z7 := same_new ne6 (.lst [])
    have he6 := upd_same (H := J6) (a := e6) (o := .lst [])
    generalize upd J6 e6 (.lst []) = J7 at z7 he6 ⊢
    refine ⟨_, _, ones_dp (z7 _ _ hl), .lst (SqL.of he6) .nil, shaped_ints _, shaped_nil, rfl, _, rfl, ?_⟩
    rw [ones_eqv, hk, f.anyA r rok.1 rok.2.1, decide_eq_true rfl]
    refine iteF ?_
    have z67 := z6.trans z7
    obtain ⟨lj7, gj7⟩ := lj5.same z67
    have y7 := y5.mono (.of z67)
    have hrv7 := hrv5.mono (.of z67)
    refine ⟨_, rfl, _, rfl, _, rfl, by show 3 ≤ sizeLine; decide, fun t2 nt2 => ?_⟩
    have z8 := same_new nt2 (.tup [.str "ask", .ref rr, v3])
    have ht2 := upd_same (H := J7) (a := t2) (o := .tup [.str "ask", .ref rr, v3])
    generalize upd J7 t2 (.tup [.str "ask", .ref rr, v3]) = J8 at z8 ht2 ⊢
    have y8 := y7.mono (.of z8)
    obtain ⟨lj8, gj8⟩ := lj7.same z8
    have hrv8 := hrv7.mono (.of z8)
    refine ⟨_, rfl, v2, .ref t2, .ref ss, us, .ask r p, st, rfl, lj8.tabs, y8.u, ⟨t2, .ref rr, v3, rfl, ht2, hrv8, y8.pl⟩, y8.st, wrap_good uo dr d4 rok (by decide), gr, fun J9 g9 => ?_⟩
    obtain ⟨lj9, gj9⟩ := lj8.calm g9
    refine ⟨_, rfl, .inl ⟨_, rfl⟩, true, rfl, iteF ?_⟩
    have y9 := y8.mono (lj8.tups gj9)
    have hrv9 := hrv8.mono (lj8.tups gj9)
    refine ⟨_, rfl, _, rfl, by show 0 ≤ sizeLine; decide, fun e10 ne10 => ?_⟩
    have z10 := same_new ne10 (.tup [])
    have he10 := upd_same (H := J9) (a := e10) (o := .tup [])
    generalize upd J9 e10 (.tup []) = J10 at z10 he10 ⊢
    have y10 := y9.mono (.of z10)
    have hrv10 := hrv9.mono (.of z10)
    refine ⟨_, rfl, _, rfl, .ref ss, .ref rr, st, r, rfl, y10.st, hrv10, by omega, fun J11 bv z11 hbv => ?_⟩
    have y11 := y10.mono (.of z11)
    obtain ⟨lj11, gj11⟩ := lj9.same (z10.trans z11)
    have dl := dot_add st r (sizesM us) (by omega)
    refine ⟨_, rfl, v2, v3, .ref e10, bv, D, us, p, p, [], zadd st r, mi, 10 ^ 60, rfl, live_p lj11 y11.u y11.pl (ti_nil (z11 _ _ he10)) hbv uo two dr d4 gp (by rw [zadd_length (by omega), rs1]) (nn_zadd rs.2.1 rok.2.1) (by rw [dl]; omega), fun J12 m12 sb12 sa12 so12 => ?_⟩
    obtain ⟨lj12, gj12⟩ := lj11.live sb12 sa12 so12
    have t12 := lj11.tups gj12
    have y12 := y11.mono t12
    have hrv12 := (hrv10.mono (.of z11)).mono t12
    obtain ⟨vb12, htb12, hB12⟩ := y12.b.ref
    refine ⟨_, rfl, ?_⟩
    refine lcOnes (K := K) (i := 12) (rs := Bs) (fun b => within (stair us b) (stair us r)) f.toB.few (fun _ => rfl) rfl (fun R z => ⟨_, rfl, z tb vb12 htb12 hB12⟩) (fun v b H' R hm s t z => ⟨_, rfl, _, rfl, _, rfl, v2, v, .ref rr, us, b, r, rfl, y12.u.mono (.of s), t, hrv12.mono (.of s), ⟨uo, two, rok.1, rok.2.1, by omega⟩, ⟨f.toB.ok.len b hm, f.toB.ok.pos b hm⟩, fun H3 v s3 e => ⟨_, e, z H3 s3⟩⟩) fun L2 J13 kk2 z13 hl2 hk2 => ?_
    refine ⟨by show 0 ≤ sizeLine; decide, fun e14 ne14 => ?_⟩
    have z14 := same_new ne14 (.lst [])
    have he14 := upd_same (H := J13) (a := e14) (o := .lst [])
    generalize upd J13 e14 (.lst []) = J14 at z14 he14 ⊢
    refine ⟨_, _, ones_dp (z14 _ _ hl2), .lst (SqL.of he14) .nil, shaped_ints _, shaped_nil, rfl, _, rfl, ?_⟩
    rw [ones_eqv, hk2, f.anyB r rok.1 rok.2.1, decide_eq_true rfl]
    obtain ⟨lj14, gj14⟩ := lj12.same (z13.trans z14)
    exact iteF ⟨_, _, _, m12, n2, rfl, (((((((gi.trans gj1).trans gj5).trans gj7).trans gj8).trans gj9).trans gj11).trans gj12).trans gj14, lj14, by omega⟩
  · rintro σ Hi ⟨v8, v9, v10, mi, ni, rfl, gi, li, lni⟩
    have xi := x11.mono (l11.tups gi)
    have gi0 := g11.trans gi
    obtain ⟨vai, htai, hAi⟩ := xi.a.ref
    refine ⟨_, rfl, ta, rfl, ⟨_, SqT.of htai⟩, for_tup (xs := vai) (fun i σ H' => ∃ v8 v9 v10 mj, σ = [some (.ref S), some v2, some v3, some (.ref ss), some (.ref D), some (.ref ta), some (.ref tb), some (.bl due), v8, v9, v10, none, none] ∧ Gr (T0 T) [S, Lf, D] Hi H' ∧ LawSt P w (T0 T) S C Lf D us p ni mj H')
      ⟨v8, v9, v10, mi, rfl, Gr.refl Hi, li⟩ (fun i σ H' _ ⟨_, _, _, _, _, g, _⟩ => SqT.of (li.tups g _ _ htai)) ?_ ?_⟩
    · rintro j v σ Hj hv ⟨v8, v9, v10, mj, rfl, gj, lj⟩
      obtain ⟨a, ha, tav⟩ := hAi.nth hv
      have hm := List.mem_of_getElem? ha
      have xj := xi.mono (li.tups gj)
      have tj := tav.mono (li.tups gj)
      refine ⟨_, rfl, _, rfl, _, rfl, by show 3 ≤ sizeLine; decide, fun t nt => ?_⟩
      have z1 := same_new nt (.tup [.str "ask", v, v3])
      have ht := upd_same (H := Hj) (a := t) (o := .tup [.str "ask", v, v3])
      generalize upd Hj t (.tup [.str "ask", v, v3]) = J1 at z1 ht ⊢
      have y1 := xj.mono (.of z1)
      obtain ⟨lj1, gj1⟩ := lj.same z1
      have rok : RowOk us 60 a := ⟨f.toA.ok.len a hm, f.toA.ok.pos a hm, f.toA.low a hm⟩
      refine ⟨_, rfl, v2, .ref t, .ref ss, us, .ask a p, st, rfl, lj1.tabs, y1.u, ⟨t, v, v3, rfl, ht, tj.mono (.of z1), y1.pl⟩, y1.st, wrap_good uo dr d4 rok (by decide), gr, fun J2 g2 => ?_⟩
      obtain ⟨lj2, gj2⟩ := lj1.calm g2
      refine ⟨_, true, rfl, rfl, _, rfl, ?_⟩
      rw [f.eachA hm, decide_eq_true rfl]
      exact iteF ⟨_, _, _, mj, rfl, (gj.trans gj1).trans gj2, lj2⟩
    · rintro σ Hj ⟨v8, v9, v10, mj, rfl, gj, lj⟩
      have xj := xi.mono (li.tups gj)
      have gj0 := gi0.trans gj
      obtain ⟨vbj, htbj, hBj⟩ := xj.b.ref
      refine ⟨_, rfl, tb, rfl, ⟨_, SqT.of htbj⟩, for_tup (xs := vbj) (fun i σ H' => ∃ v8 v9 v10 mk, σ = [some (.ref S), some v2, some v3, some (.ref ss), some (.ref D), some (.ref ta), some (.ref tb), some (.bl due), v8, v9, v10, none, none] ∧ Gr (T0 T) [S, Lf, D] Hj H' ∧ LawSt P w (T0 T) S C Lf D us p ni mk H')
        ⟨v8, v9, v10, mj, rfl, Gr.refl Hj, lj⟩ (fun i σ H' _ ⟨_, _, _, _, _, g, _⟩ => SqT.of (lj.tups g _ _ htbj)) ?_ ?_⟩
      · rintro i2 v σ Hk hv ⟨v8, v9, v10, mk, rfl, gk, lk⟩
        obtain ⟨b, hb, tbv⟩ := hBj.nth hv
        have hm := List.mem_of_getElem? hb
        have xk := xj.mono (lj.tups gk)
        have tk := tbv.mono (lj.tups gk)
        have bl := f.toB.ok.len b hm
        have dl := dot_add st b (sizesM us) (by omega)
        have bb := f.lowB b hm
        refine ⟨_, rfl, _, rfl, by show 0 ≤ sizeLine; decide, fun e ne => ?_⟩
        have z1 := same_new ne (.tup [])
        have he := upd_same (H := Hk) (a := e) (o := .tup [])
        generalize upd Hk e (.tup []) = J1 at z1 he ⊢
        have y1 := xk.mono (.of z1)
        refine ⟨_, rfl, _, rfl, .ref ss, v, st, b, rfl, y1.st, tk.mono (.of z1), by omega, fun J2 bv z2 hbv => ?_⟩
        have y2 := y1.mono (.of z2)
        obtain ⟨lk2, gk2⟩ := lk.same (z1.trans z2)
        refine ⟨_, rfl, v2, v3, .ref e, bv, D, us, p, p, [], zadd st b, mk, 10 ^ 60, rfl, live_p lk2 y2.u y2.pl (ti_nil (z2 _ _ he)) hbv uo two dr d4 gp (by rw [zadd_length (by omega), rs1]) (nn_zadd rs.2.1 (f.toB.ok.pos b hm)) (by rw [dl]; omega), fun J3 m3 sb3 sa3 so3 => ?_⟩
        obtain ⟨lk3, gk3⟩ := lk2.live sb3 sa3 so3
        refine ⟨_, rfl, ?_⟩
        rw [f.eachB hm]
        exact iteF ⟨_, _, _, m3, rfl, (gk.trans gk2).trans gk3, lk3⟩
      · rintro σ Hk ⟨v8, v9, v10, mk, rfl, gk, lk⟩
        exact k _ mk ni (gj0.trans gk) lk (by omega)
end
end K40
end
section
set_option Elab.async false
set_option linter.all false
set_option autoImplicit false
set_option maxRecDepth 100000
set_option maxHeartbeats 4000000
/-! The law. -/
namespace K40
open PySem PySem.Spec PyProof.Rows L2 LamX
theorem iteArg {α : Sort _} {c : Bool} {F : α → Prop} {x y : α} (h : F (if c = true then x else y)) : if c = true then F x else F y := by
  cases c <;> exact h
theorem Gr.sql {TT : List (Addr × Str)} {K : PySem.W.Frag} {H H' : Hp} {a : Addr} {xs : List V} (g : Gr TT [] H H') (h : SqL K H a xs) : SqL K H' a xs := by
  rcases h with (h | ⟨o, h⟩) | h
  · exact .inl (.inl (g.keep a _ h (fun _ z => by cases z) (by simp)))
  · exact .inl (.inr ⟨o, g.keep a _ h (fun _ z => by cases z) (by simp)⟩)
  · exact .inr h
theorem small_uok {us : List Int} (h : us ∈ smallUs) : UOk us ∧ us.length ≤ 2 := by
  have all : ∀ us ∈ smallUs, us.length ≤ 2 ∧ ∀ u ∈ us, 2 ≤ u ∧ u ≤ 10 := by decide
  obtain ⟨h1, h2⟩ := all us h
  exact ⟨⟨by omega, fun u hu => (h2 u hu).1, fun u hu => (h2 u hu).2⟩, h1⟩
theorem RowOk.le {us : List Int} {m n : Int} {r : Row} (h : RowOk us m r) (l : m ≤ n) : RowOk us n r := ⟨h.1, h.2.1, by have := h.2.2; omega⟩
theorem cost3 : cost 3 = 49 := by decide
theorem cost4 : cost 4 = 105 := by decide
/-- a plan of 4 or 3 steps deep -/
def spPlanB (TT : List (Addr × Str)) : Sp := fun vs H Q E => ∃ d : Nat, (d = 4 ∨ d = 3) ∧ spPlan TT d vs H Q E
def spLaw (K : PySem.W.Frag) (TT : List (Addr × Str)) : Sp := fun vs H Q _ => ∃ (a : Addr) (ns : List Int), vs = [.ref a] ∧ SqL K H a (ns.map V.int) ∧ ns.length ≤ 63 ∧ Tabs TT H ∧ ∀ H', Q (.bl true) H'
section
variable {P : Program} {w : World} {K : PySem.W.Frag} {mg : Str → Option Value} {base : Heap} {TT : List (Addr × Str)}
theorem ok_wPlanB (T : Wd K mg) : FnOk P w K mg base CX0 8 T.wSmallPlan.f T.wSmallPlan.fd ["_law_state", "_law_units_so", "_law_deep"] (spPlanB TT) := by
  have F4 := ok_wSmallPlan (P := P) (w := w) (base := base) (TT := TT) T 4
  have F3 := ok_wSmallPlan (P := P) (w := w) (base := base) (TT := TT) T 3
  refine ⟨fun vs H Q E h => ?_, fun A outer s H args us vs Q E hr e0 hb r h => ?_⟩
  · obtain ⟨d, _, S, C, Lf, n, v, us, rfl, _⟩ := h
    rfl
  · obtain ⟨d, rfl | rfl, h⟩ := h
    · exact F4.run A outer s H args us vs Q E hr e0 hb r h
    · exact F3.run A outer s H args us vs Q E (hr.mono (by decide)) e0 hb r h
theorem scLaw : FnScope ["_law_script", "_law_state", "_law_units_so", "_law_plan_so", "_law_seen", "_law_step"] ["_law_script"] (defScope sLaw) := ⟨rfl, rfl, rfl, by decide +kernel, rfl, by decide +kernel, by decide +kernel⟩
theorem ok_law (T : Wt K mg) (TB : TabB base mg T.cN T.pN) (TBR : TabB base mg T.cR T.pR) : FnG P w K mg base (L2.CX P w) 27 T.law.f T.law.fd ["_law_script"] (spLaw K (T0 T)) := by
  have GWRefusedRight := ok_wRefusedRight (P := P) (w := w) T TB TBR
  have GWStockRight := ok_wStockRight (P := P) (w := w) T TB
  have GWLike := ok_wLike (P := P) (w := w) (base := base) T.toWd
  have GWBegin := ok_wBegin (P := P) (w := w) (base := base) T.toWd
  have GWSmallUnits := ok_wSmallUnits (P := P) (w := w) (base := base) (TT := T0 T) T.toWd
  have GWSmallPlan := ok_wPlanB (P := P) (w := w) (base := base) (TT := T0 T) T.toWd
  have GWRow := ok_wRow (P := P) (w := w) (base := base) (TT := T0 T) T.toWd
  have GWOf := ok_wOf (P := P) (w := w) (base := base) (TT := T0 T) T.toWd
  have GPlanStocks := ok_planStocks (P := P) (w := w) T TB
  have GPlanLacks := ok_planLacks (P := P) (w := w) T TB
  refine okG T.law.F scLaw (fun vs H Q E h => ?_) (fun cdv A outer s H vs Q E hg hr h => ⟨_, (pss_cons (ps_if (pt_not (pt_val (pe_callG0 hg GWRefusedRight (hr.mono (by first | decide | omega)) rfl T.wRefusedRight.g T.wRefusedRight.F.kp T.wRefusedRight.b .nil (passes_call (takes_of rfl rfl rfl rfl) (fun _ _ _ _ z => z))))) (pss_one (ps_ret pe_bl)) pss_nil)
 (pss_cons (ps_set (i := 1) scLaw.nd rfl (.inl rfl) (pe_call GWBegin (hr.mono (by first | decide | omega)) rfl T.wBegin.g T.wBegin.F.kp T.wBegin.b .nil pass0 (pa_cons (pv 0) pa_nil)))
 (pss_cons (ps_set (i := 2) scLaw.nd rfl (.inl rfl) (pe_call GWSmallUnits (hr.mono (by first | decide | omega)) rfl T.wSmallUnits.g T.wSmallUnits.F.kp T.wSmallUnits.b .nil pass0 (pa_cons (pv 1) pa_nil)))
 (pss_cons (ps_par (i := 3) (j := 4) rfl scLaw.nd rfl rfl (by decide) rfl rfl (pa_cons (pe_call GWSmallPlan (hr.mono (by first | decide | omega)) rfl T.wSmallPlan.g T.wSmallPlan.F.kp T.wSmallPlan.b .nil pass0 (pa_cons (pv 1) (pa_cons (pv 2) (pa_cons (pe_ifExp (pt_cmpR op_lt (pe_callB call_len_seq (by rfl) T.nLen (by decide +kernel) (pa_cons (pv 2) pa_nil)) pe_int (nomark _)) pe_int pe_int) pa_nil)))) (pa_cons pe_dnewT pa_nil)) rfl)
 (pss_cons (ps_for (passes_of rfl) rfl (pi_range1 rfl T.nRange (pa_cons pe_int pa_nil)) (pg_name (i := 5) scLaw.nd rfl (.inl rfl)) (pss_one (ps_if (pt_not (pt_val (pe_callG hg GWStockRight (hr.mono (by first | decide | omega)) rfl T.wStockRight.g T.wStockRight.F.kp T.wStockRight.b .nil (passes_call (takes_of rfl rfl rfl rfl) (fun _ _ _ _ z => z)) (pa_cons (pv 1) (pa_cons (pv 2) (pa_cons (pv 3) (pa_cons (pe_call GWRow (hr.mono (by first | decide | omega)) rfl T.wRow.g T.wRow.F.kp T.wRow.b .nil pass0 (pa_cons (pv 1) (pa_cons (pv 2) (pa_cons pe_int pa_nil)))) (pa_cons (pv 4) pa_nil)))))))) (pss_one (ps_ret pe_bl)) pss_nil)))
 (pss_cons (ps_if (pt_not (pt_val (pe_callG hg GWStockRight (hr.mono (by first | decide | omega)) rfl T.wStockRight.g T.wStockRight.F.kp T.wStockRight.b .nil (passes_call (takes_of rfl rfl rfl rfl) (fun _ _ _ _ z => z)) (pa_cons (pv 1) (pa_cons (pv 2) (pa_cons (pv 3) (pa_cons (pe_call GWOf (hr.mono (by first | decide | omega)) rfl T.wOf.g T.wOf.F.kp T.wOf.b .nil pass0 (pa_cons (pv 1) (pa_cons (pe_call GPlanStocks (hr.mono (by first | decide | omega)) rfl T.planStocks.g T.planStocks.F.kp T.planStocks.b .nil (passes_call (takes_of rfl rfl rfl rfl) (fun _ _ _ _ z => z)) (pa_cons (pv 2) (pa_cons (pv 3) pa_nil))) pa_nil))) (pa_cons (pv 4) pa_nil)))))))) (pss_one (ps_ret pe_bl)) pss_nil)
 (pss_one (ps_ret (pe_callG hg GWLike (hr.mono (by first | decide | omega)) rfl T.wLike.g T.wLike.F.kp T.wLike.b .nil passL (pa_cons (pe_call GPlanLacks (hr.mono (by first | decide | omega)) rfl T.planLacks.g T.planLacks.F.kp T.planLacks.b .nil (passes_call (takes_of rfl rfl rfl rfl) (fun _ _ _ _ z => z)) (pa_cons (pv 2) (pa_cons (pv 3) (pa_cons (pe_op op_repA (pe_tup (pa_cons pe_int pa_nil)) (pe_op op_add (pe_callB call_len_seq (by rfl) T.nLen (by decide +kernel) (pa_cons (pv 2) pa_nil)) pe_int)) pa_nil)))) (pa_cons (pe_call GPlanStocks (hr.mono (by first | decide | omega)) rfl T.planStocks.g T.planStocks.F.kp T.planStocks.b .nil (passes_call (takes_of rfl rfl rfl rfl) (fun _ _ _ _ z => z)) (pa_cons (pv 2) (pa_cons (pv 3) pa_nil))) pa_nil))))))))))), ?_⟩)
  · obtain ⟨a, ns, rfl, _⟩ := h
    rfl
  obtain ⟨a, ns, rfl, hS, hz, tabs, k⟩ := h
  refine ⟨rfl, tabs, fun H1 g1 => ⟨true, rfl, iteF ?_⟩⟩
  refine ⟨_, rfl, a, ns, rfl, g1.sql hS, hz, fun H2 S C Lf s2 nS nL st2 => ?_⟩
  have tabs2 : Tabs (T0 T) H2 := (g1.tabs tabs).ext s2
  refine ⟨_, rfl, S, C, Lf, 0, rfl, st2, by decide, fun H3 uv us hus g3 st3 hu3 => ?_⟩
  obtain ⟨uo, two⟩ := small_uok hus
  have tabs3 := g3.tabs tabs2
  obtain ⟨ub, rfl, hub⟩ := id hu3
  refine ⟨_, rfl, _, rfl, _, rfl, ub, _, rfl, .inr (SqT.of hub), _, _, rfl, rfl, _, rfl, ?_⟩
  rw [List.length_map]
  refine iteArg (F := fun v => tC v _ _ _) ?_
  obtain ⟨d, d43, sd, ed⟩ : ∃ d : Nat, (d = 4 ∨ d = 3) ∧ SmallD us d ∧ (if decide ((us.length : Int) < 2) = true then V.int 4 else V.int 3) = V.int (d : Int) := by
    by_cases c : us.length ≤ 1
    · refine ⟨4, .inl rfl, .inr ⟨Nat.le_refl _, c⟩, ?_⟩
      rw [decide_eq_true (by omega : (us.length : Int) < 2)]
      rfl
    · refine ⟨3, .inr rfl, .inl (Nat.le_refl _), ?_⟩
      rw [decide_eq_false (by omega : ¬ (us.length : Int) < 2)]
      rfl
  rw [ed]
  have d4 : d ≤ 4 := by omega
  have cd : cost d ≤ 105 := by
    have := cost3
    have := cost4
    rcases d43 with rfl | rfl <;> omega
  refine ⟨d, d43, S, C, Lf, 0 + 1, .ref ub, us, rfl, st3, by omega, hu3, uo, fun H4 pv p n4 dr hp4 g4 st4 n4l => ?_⟩
  have t4 := st3.tups g4
  have hu4 := hu3.mono t4
  refine fun D nD => ⟨_, _, rfl, ?_⟩
  have s5 := same_new nD (.dT [])
  have hD := upd_same (H := H4) (a := D) (o := .dT [])
  generalize upd H4 D (.dT []) = H5 at s5 hD ⊢
  have l5 : LawSt P w (T0 T) S C Lf D us p n4 [] H5 := ⟨(g4.tabs tabs3).ext s5, st4.same s5, SeenAt.nil hD, .nil⟩
  have hu5 := hu4.same s5
  have hp5 := hp4.same s5
  have gp := drawn_good uo dr d4
  obtain ⟨L, lo⟩ := least_ok uo.pos1 d p dr sd
  obtain ⟨f1, f2, f3, f4, f5⟩ := stocks_facts uo.pos1 sd lo
  refine ⟨_, rfl, by decide, by decide, for_range (lo := 0) (n := 2) (fun i σ H' => ∃ v5 m n', σ = [some (.ref a), some (.ref S), some (.ref ub), some pv, some (.ref D), v5] ∧ Gr (T0 T) [S, Lf, D] H5 H' ∧ LawSt P w (T0 T) S C Lf D us p n' m H' ∧ n' ≤ n4 + 20 * (i : Int))
    ⟨none, [], n4, rfl, Gr.refl H5, l5, by omega⟩ ?_ ?_⟩
  · rintro i σ Hi hi ⟨v5, mi, ni, rfl, gi, li, lni⟩
    have ui := hu5.mono (l5.tups gi)
    have pi := hp5.mono (l5.tups gi)
    refine ⟨_, rfl, _, rfl, _, rfl, _, rfl, _, rfl, S, C, Lf, ni, 10, .ref ub, us, rfl, li.st, by omega, ui, uo, by decide, by decide, fun J1 rv r n2 rok g6 st6 n2l hrv => ?_⟩
    obtain ⟨l6, g16⟩ := li.draw g6 st6
    have t6 := li.tups g16
    refine ⟨_, rfl, S, C, Lf, D, .ref ub, pv, rv, us, d, p, r, mi, n2, rfl, l6, by omega, ui.mono t6, pi.mono t6, hrv, uo, two, dr, d4, sd, rok.le (by decide), fun J2 m7 n7 g7 l7 n7l => ⟨true, rfl, iteF ⟨_, m7, n7, rfl, (gi.trans g16).trans g7, l7, by omega⟩⟩⟩
  · rintro σ Hi ⟨v5, mi, ni, rfl, gi, li, lni⟩
    have ui := hu5.mono (l5.tups gi)
    have pi := hp5.mono (l5.tups gi)
    refine ⟨_, rfl, _, rfl, _, rfl, _, rfl, _, rfl, _, rfl, .ref ub, pv, us, p, L, rfl, li.tabs, ui, pi, gp, lo.eq, fun J1 sv g6 hsv => ?_⟩
    obtain ⟨l6, g16⟩ := li.calm g6
    have u6 := ui.mono (.gr g6)
    have p6 := pi.mono (.gr g6)
    refine ⟨S, C, Lf, ni, sv, rowsOf us L, rfl, l6.st, by omega, hsv, f2, by omega, fun J2 rv r hm g7 st7 hrv => ?_⟩
    obtain ⟨l7, g17⟩ := l6.draw g7 st7
    have t7 := l6.tups g17
    have rok : RowOk us 20 r := by
      refine ⟨f1.len r hm, f1.pos r hm, ?_⟩
      have := f3 r hm
      rw [stair_last (f1.len r hm)] at this
      omega
    refine ⟨_, rfl, S, C, Lf, D, .ref ub, pv, rv, us, d, p, r, mi, _, rfl, l7, by omega, u6.mono t7, p6.mono t7, hrv, uo, two, dr, d4, sd, rok, fun J3 m8 n8 g8 l8 n8l => ⟨true, rfl, iteF ?_⟩⟩
    have t8 := l7.tups g8
    have u8 := (u6.mono t7).mono t8
    have p8 := (p6.mono t7).mono t8
    refine ⟨_, rfl, _, rfl, by show 1 ≤ sizeLine; decide, fun t nt => ?_⟩
    have s9 := same_new nt (.tup [.int 0])
    have ht := upd_same (H := J3) (a := t) (o := .tup [.int 0])
    generalize upd J3 t (.tup [.int 0]) = J4 at s9 ht ⊢
    refine ⟨_, rfl, ub, _, rfl, .inr (SqT.of (u8.same s9).ref), _, 1, rfl, rfl, t, _, _, rfl, rfl, ht, by simp, by omega, ?_, by simp, fun J5 q s10 hq => ?_⟩
    · rw [List.length_map]
      omega
    have s11 := s9.trans s10
    obtain ⟨l11, g11⟩ := l8.same s11
    have u11 := u8.same s11
    have p11 := p8.same s11
    have hzq : TI J5 (.ref q) (List.replicate (us.length + 1) 0) := by
      refine ⟨q, rfl, ?_⟩
      rw [hq, List.length_map, show ((us.length : Int) + 1).toNat = us.length + 1 by omega]
      congr 2
      simp
    have gz : GoodR us (List.replicate (us.length + 1) 0) := by
      refine ⟨by simp, fun x hx => ?_⟩
      rw [(List.mem_replicate.mp hx).2]
      exact ⟨by decide, by decide⟩
    refine ⟨.ref ub, pv, .ref q, rfl, l11.tabs, us, u11, .inr (.inr ⟨p, _, p11, hzq, gp, .inr ⟨gz, fun R e1 J6 t1 g12 tr1 => ?_, fun e1 => by rw [f5] at e1; cases e1⟩⟩)⟩
    rw [f5] at e1
    cases e1
    obtain ⟨l12, g112⟩ := l11.calm g12
    refine ⟨_, rfl, _, rfl, .ref ub, pv, us, p, L, rfl, l12.tabs, u11.mono (.gr g12), p11.mono (.gr g12), gp, lo.eq, fun J7 t2 g13 tr2 => ?_⟩
    have sh : Shw (.tuple ((rowsOf us L).map rowD)) := shw_rows (by omega) fun r hm => by
      have rok : RowOk us 20 r := by
        refine ⟨f1.len r hm, f1.pos r hm, ?_⟩
        have := f3 r hm
        rw [stair_last (f1.len r hm)] at this
        omega
      refine ⟨by rw [rok.1]; omega, fun x hx => ?_⟩
      have := rok.low uo x hx
      exact ⟨this.1, by omega⟩
    have tr1b := tr1.mono (.gr g13)
    obtain ⟨ta, _, rfl, _⟩ := id tr1b
    obtain ⟨tb, _, rfl, _⟩ := id tr2
    exact ⟨.inr ⟨ta, tb, _, rfl, tr1b.dp, tr2.dp, sh⟩, k _⟩
end
end K40
end
section
set_option Elab.async false
set_option linter.all false
set_option autoImplicit false
set_option maxRecDepth 100000
set_option maxHeartbeats 4000000
/-! The end: a law that asks repr, over tables of code objects. -/
namespace K40
open PySem PySem.Spec PyProof.Rows L2 LamX
/-- what the law starts from: the tables and, it may be, the script are tracked -/
structure Beg (K : PySem.W.Frag) (H : Hp) (h : Heap) (a : Addr) (ts : List Addr) : Prop where
  tab : ∀ t ∈ ts, H t = some (.tbl #[])
  emp : ∀ t ∈ ts, h.get? t = some { cls := .none, data := .fields #[] }
  rest : ∀ b, b ∉ ts → H b = none ∨ (b = a ∧ K.lookup a = none ∧ ∃ o xs, H b = some (.frz o (.lst xs)))
  seq : ∃ c items n, h.get? a = some c ∧ c.data = .seq items n
section
variable {P : Program} {w : World} {K : PySem.W.Frag} {mg mb : Str → Option Value} {H : Hp} {h : Heap} {a : Addr} {ts : List Addr} {b : Addr} {o : Obj}
theorem Beg.free (g : Beg K H h a ts) (e : h.get? b = some o) (n1 : ∀ items n, o.data ≠ .seq items n) (n2 : o.data ≠ .fields #[]) : H b = none := by
  by_cases m : b ∈ ts
  · have z := g.emp b m
    rw [e] at z
    exact absurd (congrArg Obj.data (Option.some.inj z)) n2
  · rcases g.rest b m with q | ⟨eb, _⟩
    · exact q
    · obtain ⟨c, items, n, e2, e3⟩ := g.seq
      rw [← eb, e] at e2
      rw [← Option.some.inj e2] at e3
      exact absurd e3 (n1 items n)
theorem Beg.base (g : Beg K H h a ts) (e : h.get? b = some o) (n1 : ∀ items n, o.data ≠ .seq items n) (n2 : o.data ≠ .fields #[]) : (hidT h H).get? b = some o := hidT_get e (g.free e n1 n2)
theorem Beg.ns (g : Beg K H h a ts) {m : Str → Option Value} : h.Ns b m → (hidT h H).Ns b m := by
  rintro ⟨ob, es, ep, e, d, r⟩
  exact ⟨ob, es, ep, g.base e (fun _ _ z => by rw [d] at z; cases z) (fun z => by rw [d] at z; cases z), d, r⟩
theorem Beg.kin (g : Beg K H h a ts) (kin : K.In h) (nt : ∀ t ∈ ts, K.lookup t = none) : K.In (hidT h H) := by
  intro c oc e
  have e2 := kin c oc e
  by_cases m : c ∈ ts
  · rw [nt c m] at e
    cases e
  · rcases g.rest c m with q | ⟨rfl, q, _⟩
    · exact hidT_get e2 q
    · rw [q] at e
      cases e
theorem Beg.tabB (g : Beg K H h a ts) {cd tb : Addr} (ht : tb ∈ ts) (hn : h.Ns mainGlobals mg) (hc : PySem.W.CodeHd h cd tb)
    (hm : ∃ (m : Addr) (ob : Obj), mg "__builtins__" = some (.ref m) ∧ m ≠ builtinsNs ∧ h.get? m = some ob ∧ ob.cls = .type "module" ∧ ob.dict = some builtinsNs ∧ ob.data = .plain) : TabB (hidT h H) mg cd tb := by
  have he := g.emp tb ht
  obtain ⟨gl, es, ep, eg, dg, _⟩ := id hn
  refine ⟨?_, ?_, ?_⟩
  · obtain ⟨co, us, y1, y2, y3, y4, y5, y6, y7, z1, z2, z3, z⟩ := hc
    refine ⟨co, us, y1, y2, y3, y4, y5, y6, y7, g.base z1 (fun _ _ q => by rw [z3] at q; cases q) (fun q => ?_), z2, z3, z⟩
    rw [z3] at q
    injection q with q
    have q2 := z.1
    rw [q] at q2
    simp at q2
  · obtain ⟨m, ob, m1, m2, m3, m4, m5, m6⟩ := hm
    refine ⟨m, ob, m1, m2, fun q => ?_, fun q => ?_, g.base m3 (fun _ _ q => by rw [m6] at q; cases q) (fun q => by rw [m6] at q; cases q), m4, m5, m6⟩
    · rw [q, eg] at m3
      rw [Option.some.inj m3, m6] at dg
      cases dg
    · rw [q, he] at m3
      rw [← Option.some.inj m3] at m6
      cases m6
  · intro q
    rw [q, he] at eg
    rw [← Option.some.inj eg] at dg
    cases dg
end
/-- the law's call, from such a start -/
theorem beg_call {P : Program} {w : World} {K : PySem.W.Frag} {mg mb : Str → Option Value} {k : Nat} {fa a : Addr} {cs : List (Addr × Addr)} {fd : FuncData} {x : Str} {sp : Sp} {s : Shared} {H : Hp} (g : Beg K H s.heap a (cs.map (·.2)))
    (kin : K.In s.heap) (hn : s.heap.Ns mainGlobals mg) (hb : s.heap.Ns builtinsNs mb) (hbb : ∀ y : Str, y ≠ "__name__" → mb y = bootBuiltins y) (lim : s.heap.NoLimit) (gen : s.gens = #[]) (nt : ∀ p ∈ cs, K.lookup p.2 = none) (hc : ∀ p ∈ cs, PySem.W.CodeHd s.heap p.1 p.2)
    (hm : ∃ (m : Addr) (ob : Obj), mg "__builtins__" = some (.ref m) ∧ m ≠ builtinsNs ∧ s.heap.get? m = some ob ∧ ob.cls = .type "module" ∧ ob.dict = some builtinsNs ∧ ob.data = .plain) (hr : Room k callerA) (hok : HOk P w H s.heap)
    (F : ∀ base : Heap, K.In base → base.Ns mainGlobals mg → (∀ p ∈ cs, TabB base mg p.1 p.2) → FnG P w K mg base (L2.CX P w) k fa fd [x] sp) (bind : Binds K fd [x] []) (hsp : sp [.ref a] H (fun v _ => v = .bl true) fun _ _ _ => False) :
    codeAny (model P w) callerA (.call (.ref fa) ⟨[.ref a], []⟩) (fun r s' => r = .ok (.ret (.bool true)) ∧ OldK s.heap s'.heap ∧ s'.os = s.os ∧ AllBare s'.gens) s := by
  have into : ∀ p ∈ cs, p.2 ∈ cs.map (·.2) := fun p hp => List.mem_map.mpr ⟨p, hp, rfl⟩
  have kin2 := g.kin kin fun t ht => by
    obtain ⟨p, hp, rfl⟩ := List.mem_map.mp ht
    exact nt p hp
  have tb : ∀ p ∈ cs, TabB (hidT s.heap H) mg p.1 p.2 := fun p hp => g.tabB (into p hp) hn (hc p hp) hm
  obtain ⟨mc, lim1, lim2⟩ := lim
  have md : L2.Mod K mg (hidT s.heap H) := ⟨kin2, g.ns hn, ⟨mb, g.ns hb, hbb⟩, ⟨mc, g.ns lim1, lim2⟩⟩
  have env : Env0 P w K mg (hidT s.heap H) callerA [] s H :=
    { frames := rfl, mod := md, bs := fun b o e => of_hidT e, bsz := Nat.le_of_eq (hidT_size _ _), funs := trivial, frf := fun b hb => (nomatch (show b ∈ ([] : List Addr) from hb)), hok := hok, bare := .of_eq gen }
  have run := (F _ kin2 (g.ns hn) tb).run callerA [] s H ⟨[.ref a], []⟩ [.ref a] [.ref a] (fun v _ => v = .bl true) (fun _ _ _ => False) rfl hr env (bind s [.ref a] kin rfl) (.cons rfl .nil) hsp
  refine codeAny_mono run fun res s2 fin => ?_
  match res, fin with
  | .error e, fin =>
    obtain ⟨_, _, _, _, _, _, _, _, _, _, _, _, z⟩ := fin
    exact z.elim
  | .ok (.ret u), fin =>
    obtain ⟨v, H2, os, bare, un, hok2, rv, ev⟩ := fin
    have ev : v = .bl true := ev
    rw [ev] at rv
    have eu : u = Value.bool true := rv
    have other : ∀ b o, b ∉ cs.map (·.2) → s.heap.get? b = some o → s2.heap.get? b = some o := fun b o nb e => by
      rcases g.rest b nb with q | ⟨_, _, ob, xs, q⟩
      · exact un.keep b o e q (fun z => nomatch (show b ∈ ([] : List Addr) from z)) (by simp)
      · have z1 := (hok b _ q).1
        have z2 := (hok2 b _ (un.frzs b ob _ q)).1
        rw [z2, ← z1, e]
    have table : ∀ t ∈ cs.map (·.2), ∃ more : Array Value, s2.heap.get? t = some { cls := .none, data := .fields more } := fun t ht => by
      obtain ⟨more, z⟩ := un.tbls t #[] (g.tab t ht)
      exact ⟨_, hok2 t _ z⟩
    refine ⟨by rw [eu], ⟨fun b o e => ?_, fun b o e => ?_⟩, os, bare⟩
    · by_cases m : b ∈ cs.map (·.2)
      · obtain ⟨more, z⟩ := table b m
        have he := g.emp b m
        obtain ⟨p, hp, ep⟩ := List.mem_map.mp m
        have ct := ((hc p hp).tab (by rw [ep]; exact he)).isCodeTable
        rw [he] at e
        cases e
        rw [ep] at ct
        exact .inr (.inl ⟨ct, rfl, #[], more, rfl, by rw [Array.empty_append]; exact z⟩)
      · exact .inl (other b o m e)
    · by_cases m : b ∈ cs.map (·.2)
      · obtain ⟨more, z⟩ := table b m
        exact ⟨_, z⟩
      · exact ⟨o, other b o m e⟩
/-- the heap that is tracked: the tables, and t at the script -/
def begH (ts : List Addr) (a : Addr) (t : Option HO) : Hp := fun b => if b ∈ ts then some (.tbl #[]) else if b = a then t else none
theorem begH_in {ts : List Addr} {a b : Addr} {t : Option HO} (m : b ∈ ts) : begH ts a t b = some (.tbl #[]) := if_pos m
theorem begH_out {ts : List Addr} {a b : Addr} {t : Option HO} (m : b ∉ ts) : begH ts a t b = if b = a then t else none := if_neg m
end K40
end
section
set_option Elab.async false
set_option linter.all false
set_option autoImplicit false
set_option maxRecDepth 100000
set_option maxHeartbeats 4000000
/-! From the head's facts to what the defs ask (printed by wip/gen_fin.py). -/
namespace K40
open PySem PySem.Spec PyProof.Rows L2 LamX
section
variable {K : PySem.W.Frag} {mg : Str → Option Value} {w : World} {h : Heap}
abbrev Said (w : World) (h : Heap) (K : PySem.W.Frag) : Prop := He.SaysX faL fnL [] tfL exL w h K
theorem df_of (c : Said w h K) (X : K.In h) (G : h.Ns mainGlobals mg) {x : Str} {st : Stmt} {ps : List Str} (i j : Nat) (hf : faL[i]? = some (.glo x)) (hd : fnL[j]? = some ⟨(x, none), x, x, defArgs st, defBody st, defScope st, [], []⟩)
    (hb : ∀ (kV doc pm : Value) (an : Option Addr) (cdv ct : Value) (us : List Value), us.length = ps.length → bindArgs (PySem.W.fnOf x x (defArgs st) (defBody st) (defScope st) .none kV doc pm an cdv ct) ⟨us, []⟩ = pure (ps.zip us)) :
    ∃ D : Df K mg x st ps, D.f = He.ga K x := by
  obtain ⟨fd, F⟩ := c.t.d.def_ j hd
  exact ⟨⟨He.ga K x, fd, He.glo_ok X G (c.t.d.fact i hf), He5.fun_of F, F.bindsN hb⟩, rfl⟩
theorem ex_of (c : Said w h K) (X : K.In h) (G : h.Ns mainGlobals mg) {x qual f : Str} {st : Stmt} (i j l : Nat) (hf : faL[i]? = some (.glo x)) (hn : faL[l]? = some (.noat x f)) (hd : fnL[j]? = some ⟨(x, some "__init__"), "__init__", qual, defArgs st, defBody st, defScope st, [], []⟩)
    (he : excAll K (He.ga K x) (He.ma K (He.ga K x) "__init__") = true)
    (hb : ∀ (kV doc pm : Value) (an : Option Addr) (cdv ct : Value) (us : List Value), us.length = [("self" : Str), f].length → bindArgs (PySem.W.fnOf "__init__" qual (defArgs st) (defBody st) (defScope st) .none kV doc pm an cdv ct) ⟨us, []⟩ = pure ([("self" : Str), f].zip us)) :
    ∃ D : Ex K mg x qual f st, D.C = He.ga K x := by
  obtain ⟨fd, F⟩ := c.t.d.def_ j hd
  exact ⟨⟨He.ga K x, He.ma K (He.ga K x) "__init__", fd, He.glo_ok X G (c.t.d.fact i hf), excAll_ok he, He.noat_ok (c.t.d.fact l hn), He5.fun_of F, F.bindsN hb⟩, rfl⟩
theorem code_of {x : Str} {st : Stmt} {ps : List Str} (D : Df K mg x st ps) (e : D.f = He.ga K x) : D.fd.code = .ref (He.cT K (x, none)).1 := by
  obtain ⟨oc, od, kV, doc, pmv, an, cdv, ct, osl, efd, lk, hcd⟩ := D.F.ex
  obtain ⟨c, ec⟩ := He.codeIn_ref hcd
  have e2 : D.fd.code = .ref c := by
    rw [efd]
    exact ec
  rw [e] at lk
  rw [e2, show (He.cT K (x, none)).1 = c from He.codeOf_eq (p := (x, none)) lk e2]
theorem df_isFrom (c : Said w h K) (X : K.In h) (G : h.Ns mainGlobals mg) : ∃ D : Df K mg "is_from" sIsFrom ["value", "low", "high"], D.f = He.ga K "is_from" := df_of c X G 5 4 rfl rfl fun _ _ _ _ _ _ us hl => match us, hl with | [_, _, _], _ => rfl
theorem df_needUnits (c : Said w h K) (X : K.In h) (G : h.Ns mainGlobals mg) : ∃ D : Df K mg "need_units" sNeedUnits ["value"], D.f = He.ga K "need_units" := df_of c X G 6 5 rfl rfl fun _ _ _ _ _ _ us hl => match us, hl with | [_], _ => rfl
theorem df_isRow (c : Said w h K) (X : K.In h) (G : h.Ns mainGlobals mg) : ∃ D : Df K mg "is_row" sIsRow ["units", "value"], D.f = He.ga K "is_row" := df_of c X G 7 6 rfl rfl fun _ _ _ _ _ _ us hl => match us, hl with | [_, _], _ => rfl
theorem df_needRow (c : Said w h K) (X : K.In h) (G : h.Ns mainGlobals mg) : ∃ D : Df K mg "need_row" sNeedRow ["units", "value"], D.f = He.ga K "need_row" := df_of c X G 8 7 rfl rfl fun _ _ _ _ _ _ us hl => match us, hl with | [_, _], _ => rfl
theorem df_added (c : Said w h K) (X : K.In h) (G : h.Ns mainGlobals mg) : ∃ D : Df K mg "added" sAdded ["one", "other"], D.f = He.ga K "added" := df_of c X G 9 8 rfl rfl fun _ _ _ _ _ _ us hl => match us, hl with | [_, _], _ => rfl
theorem df_less (c : Said w h K) (X : K.In h) (G : h.Ns mainGlobals mg) : ∃ D : Df K mg "less" sLess ["one", "other"], D.f = He.ga K "less" := df_of c X G 10 9 rfl rfl fun _ _ _ _ _ _ us hl => match us, hl with | [_, _], _ => rfl
theorem df_stairFrom (c : Said w h K) (X : K.In h) (G : h.Ns mainGlobals mg) : ∃ D : Df K mg "stair_from" sStairFrom ["units", "row"], D.f = He.ga K "stair_from" := df_of c X G 11 10 rfl rfl fun _ _ _ _ _ _ us hl => match us, hl with | [_, _], _ => rfl
theorem df_rowFrom (c : Said w h K) (X : K.In h) (G : h.Ns mainGlobals mg) : ∃ D : Df K mg "row_from" sRowFrom ["units", "stair"], D.f = He.ga K "row_from" := df_of c X G 12 11 rfl rfl fun _ _ _ _ _ _ us hl => match us, hl with | [_, _], _ => rfl
theorem df_upStair (c : Said w h K) (X : K.In h) (G : h.Ns mainGlobals mg) : ∃ D : Df K mg "up_stair" sUpStair ["units", "numbers"], D.f = He.ga K "up_stair" := df_of c X G 13 12 rfl rfl fun _ _ _ _ _ _ us hl => match us, hl with | [_, _], _ => rfl
theorem df_downStair (c : Said w h K) (X : K.In h) (G : h.Ns mainGlobals mg) : ∃ D : Df K mg "down_stair" sDownStair ["units", "numbers"], D.f = He.ga K "down_stair" := df_of c X G 14 13 rfl rfl fun _ _ _ _ _ _ us hl => match us, hl with | [_, _], _ => rfl
theorem df_liesWithin (c : Said w h K) (X : K.In h) (G : h.Ns mainGlobals mg) : ∃ D : Df K mg "lies_within" sLiesWithin ["one", "other"], D.f = He.ga K "lies_within" := df_of c X G 15 14 rfl rfl fun _ _ _ _ _ _ us hl => match us, hl with | [_, _], _ => rfl
theorem df_isEnough (c : Said w h K) (X : K.In h) (G : h.Ns mainGlobals mg) : ∃ D : Df K mg "is_enough" sIsEnough ["stairs", "stair"], D.f = He.ga K "is_enough" := df_of c X G 16 15 rfl rfl fun _ _ _ _ _ _ us hl => match us, hl with | [_, _], _ => rfl
theorem df_unlikeOf (c : Said w h K) (X : K.In h) (G : h.Ns mainGlobals mg) : ∃ D : Df K mg "unlike_of" sUnlikeOf ["stairs"], D.f = He.ga K "unlike_of" := df_of c X G 17 16 rfl rfl fun _ _ _ _ _ _ us hl => match us, hl with | [_], _ => rfl
theorem df_kept (c : Said w h K) (X : K.In h) (G : h.Ns mainGlobals mg) : ∃ D : Df K mg "kept" sKept ["stairs"], D.f = He.ga K "kept" := df_of c X G 18 17 rfl rfl fun _ _ _ _ _ _ us hl => match us, hl with | [_], _ => rfl
theorem df_greatestOf (c : Said w h K) (X : K.In h) (G : h.Ns mainGlobals mg) : ∃ D : Df K mg "greatest_of" sGreatestOf ["stairs"], D.f = He.ga K "greatest_of" := df_of c X G 19 18 rfl rfl fun _ _ _ _ _ _ us hl => match us, hl with | [_], _ => rfl
theorem df_greaterOf (c : Said w h K) (X : K.In h) (G : h.Ns mainGlobals mg) : ∃ D : Df K mg "greater_of" sGreaterOf ["one", "other"], D.f = He.ga K "greater_of" := df_of c X G 20 19 rfl rfl fun _ _ _ _ _ _ us hl => match us, hl with | [_, _], _ => rfl
theorem df_pairsOf (c : Said w h K) (X : K.In h) (G : h.Ns mainGlobals mg) : ∃ D : Df K mg "pairs_of" sPairsOf ["first", "second"], D.f = He.ga K "pairs_of" := df_of c X G 21 20 rfl rfl fun _ _ _ _ _ _ us hl => match us, hl with | [_, _], _ => rfl
theorem df_leastStairs (c : Said w h K) (X : K.In h) (G : h.Ns mainGlobals mg) : ∃ D : Df K mg "least_stairs" sLeastStairs ["units", "plan"], D.f = He.ga K "least_stairs" := df_of c X G 22 21 rfl rfl fun _ _ _ _ _ _ us hl => match us, hl with | [_, _], _ => rfl
theorem df_rowsOf (c : Said w h K) (X : K.In h) (G : h.Ns mainGlobals mg) : ∃ D : Df K mg "rows_of" sRowsOf ["units", "stairs"], D.f = He.ga K "rows_of" := df_of c X G 23 22 rfl rfl fun _ _ _ _ _ _ us hl => match us, hl with | [_, _], _ => rfl
theorem df_livesFrom (c : Said w h K) (X : K.In h) (G : h.Ns mainGlobals mg) : ∃ D : Df K mg "lives_from" sLivesFrom ["units", "plan", "stair"], D.f = He.ga K "lives_from" := df_of c X G 24 23 rfl rfl fun _ _ _ _ _ _ us hl => match us, hl with | [_, _, _], _ => rfl
theorem df_hasForm (c : Said w h K) (X : K.In h) (G : h.Ns mainGlobals mg) : ∃ D : Df K mg "has_form" sHasForm ["value", "size"], D.f = He.ga K "has_form" := df_of c X G 25 24 rfl rfl fun _ _ _ _ _ _ us hl => match us, hl with | [_, _], _ => rfl
theorem df_isStep (c : Said w h K) (X : K.In h) (G : h.Ns mainGlobals mg) : ∃ D : Df K mg "is_step" sIsStep ["units", "value"], D.f = He.ga K "is_step" := df_of c X G 26 25 rfl rfl fun _ _ _ _ _ _ us hl => match us, hl with | [_, _], _ => rfl
theorem df_placesIn (c : Said w h K) (X : K.In h) (G : h.Ns mainGlobals mg) : ∃ D : Df K mg "places_in" sPlacesIn ["plan"], D.f = He.ga K "places_in" := df_of c X G 27 26 rfl rfl fun _ _ _ _ _ _ us hl => match us, hl with | [_], _ => rfl
theorem df_needForms (c : Said w h K) (X : K.In h) (G : h.Ns mainGlobals mg) : ∃ D : Df K mg "need_forms" sNeedForms ["value", "fits"], D.f = He.ga K "need_forms" := df_of c X G 28 27 rfl rfl fun _ _ _ _ _ _ us hl => match us, hl with | [_, _], _ => rfl
theorem df_needPlan (c : Said w h K) (X : K.In h) (G : h.Ns mainGlobals mg) : ∃ D : Df K mg "need_plan" sNeedPlan ["units", "value"], D.f = He.ga K "need_plan" := df_of c X G 29 28 rfl rfl fun _ _ _ _ _ _ us hl => match us, hl with | [_, _], _ => rfl
theorem df_lives (c : Said w h K) (X : K.In h) (G : h.Ns mainGlobals mg) : ∃ D : Df K mg "lives" sLives ["units", "plan", "stock"], D.f = He.ga K "lives" := df_of c X G 30 29 rfl rfl fun _ _ _ _ _ _ us hl => match us, hl with | [_, _, _], _ => rfl
theorem df_planStocks (c : Said w h K) (X : K.In h) (G : h.Ns mainGlobals mg) : ∃ D : Df K mg "plan_stocks" sPlanStocks ["units", "plan"], D.f = He.ga K "plan_stocks" := df_of c X G 31 30 rfl rfl fun _ _ _ _ _ _ us hl => match us, hl with | [_, _], _ => rfl
theorem df_planLacks (c : Said w h K) (X : K.In h) (G : h.Ns mainGlobals mg) : ∃ D : Df K mg "plan_lacks" sPlanLacks ["units", "plan", "stock"], D.f = He.ga K "plan_lacks" := df_of c X G 32 31 rfl rfl fun _ _ _ _ _ _ us hl => match us, hl with | [_, _, _], _ => rfl
theorem df_stillAsked (c : Said w h K) (X : K.In h) (G : h.Ns mainGlobals mg) : ∃ D : Df K mg "still_asked" sStillAsked ["units", "plan", "stock"], D.f = He.ga K "still_asked" := df_of c X G 33 32 rfl rfl fun _ _ _ _ _ _ us hl => match us, hl with | [_, _, _], _ => rfl
theorem df_wMixed (c : Said w h K) (X : K.In h) (G : h.Ns mainGlobals mg) : ∃ D : Df K mg "_law_mixed" sWMixed ["_law_cell", "_law_k"], D.f = He.ga K "_law_mixed" := df_of c X G 34 33 rfl rfl fun _ _ _ _ _ _ us hl => match us, hl with | [_, _], _ => rfl
theorem df_wBegin (c : Said w h K) (X : K.In h) (G : h.Ns mainGlobals mg) : ∃ D : Df K mg "_law_begin" sWBegin ["_law_script"], D.f = He.ga K "_law_begin" := df_of c X G 35 34 rfl rfl fun _ _ _ _ _ _ us hl => match us, hl with | [_], _ => rfl
theorem df_wDraw (c : Said w h K) (X : K.In h) (G : h.Ns mainGlobals mg) : ∃ D : Df K mg "_law_draw" sWDraw ["_law_state", "_law_limit"], D.f = He.ga K "_law_draw" := df_of c X G 36 35 rfl rfl fun _ _ _ _ _ _ us hl => match us, hl with | [_, _], _ => rfl
theorem df_wOf (c : Said w h K) (X : K.In h) (G : h.Ns mainGlobals mg) : ∃ D : Df K mg "_law_of" sWOf ["_law_state", "_law_some"], D.f = He.ga K "_law_of" := df_of c X G 37 36 rfl rfl fun _ _ _ _ _ _ us hl => match us, hl with | [_, _], _ => rfl
theorem df_wSizes (c : Said w h K) (X : K.In h) (G : h.Ns mainGlobals mg) : ∃ D : Df K mg "_law_sizes" sWSizes ["_law_units_so"], D.f = He.ga K "_law_sizes" := df_of c X G 38 37 rfl rfl fun _ _ _ _ _ _ us hl => match us, hl with | [_], _ => rfl
theorem df_wRow (c : Said w h K) (X : K.In h) (G : h.Ns mainGlobals mg) : ∃ D : Df K mg "_law_row" sWRow ["_law_state", "_law_units_so", "_law_most"], D.f = He.ga K "_law_row" := df_of c X G 39 38 rfl rfl fun _ _ _ _ _ _ us hl => match us, hl with | [_, _, _], _ => rfl
theorem df_wBeside (c : Said w h K) (X : K.In h) (G : h.Ns mainGlobals mg) : ∃ D : Df K mg "_law_beside" sWBeside ["_law_one", "_law_other"], D.f = He.ga K "_law_beside" := df_of c X G 40 39 rfl rfl fun _ _ _ _ _ _ us hl => match us, hl with | [_, _], _ => rfl
theorem df_wWithout (c : Said w h K) (X : K.In h) (G : h.Ns mainGlobals mg) : ∃ D : Df K mg "_law_without" sWWithout ["_law_row_here", "_law_order"], D.f = He.ga K "_law_without" := df_of c X G 41 40 rfl rfl fun _ _ _ _ _ _ us hl => match us, hl with | [_, _], _ => rfl
theorem df_wCuts (c : Said w h K) (X : K.In h) (G : h.Ns mainGlobals mg) : ∃ D : Df K mg "_law_cuts" sWCuts ["_law_units_so", "_law_row_here"], D.f = He.ga K "_law_cuts" := df_of c X G 42 41 rfl rfl fun _ _ _ _ _ _ us hl => match us, hl with | [_, _], _ => rfl
theorem df_wFits (c : Said w h K) (X : K.In h) (G : h.Ns mainGlobals mg) : ∃ D : Df K mg "_law_fits" sWFits ["_law_units_so", "_law_order", "_law_stock"], D.f = He.ga K "_law_fits" := df_of c X G 43 42 rfl rfl fun _ _ _ _ _ _ us hl => match us, hl with | [_, _, _], _ => rfl
theorem df_wLefts (c : Said w h K) (X : K.In h) (G : h.Ns mainGlobals mg) : ∃ D : Df K mg "_law_lefts" sWLefts ["_law_units_so", "_law_stock", "_law_order"], D.f = He.ga K "_law_lefts" := df_of c X G 44 43 rfl rfl fun _ _ _ _ _ _ us hl => match us, hl with | [_, _, _], _ => rfl
theorem df_wLike (c : Said w h K) (X : K.In h) (G : h.Ns mainGlobals mg) : ∃ D : Df K mg "_law_like" sWLike ["_law_got", "_law_due"], D.f = He.ga K "_law_like" := df_of c X G 45 44 rfl rfl fun _ _ _ _ _ _ us hl => match us, hl with | [_, _], _ => rfl
theorem df_wSmallUnits (c : Said w h K) (X : K.In h) (G : h.Ns mainGlobals mg) : ∃ D : Df K mg "_law_small_units" sWSmallUnits ["_law_state"], D.f = He.ga K "_law_small_units" := df_of c X G 46 45 rfl rfl fun _ _ _ _ _ _ us hl => match us, hl with | [_], _ => rfl
theorem df_wSmallPlan (c : Said w h K) (X : K.In h) (G : h.Ns mainGlobals mg) : ∃ D : Df K mg "_law_small_plan" sWSmallPlan ["_law_state", "_law_units_so", "_law_deep"], D.f = He.ga K "_law_small_plan" := df_of c X G 47 46 rfl rfl fun _ _ _ _ _ _ us hl => match us, hl with | [_, _, _], _ => rfl
theorem df_wLive (c : Said w h K) (X : K.In h) (G : h.Ns mainGlobals mg) : ∃ D : Df K mg "_law_live" sWLive ["_law_units_so", "_law_plan_so", "_law_path_so", "_law_stock", "_law_seen"], D.f = He.ga K "_law_live" := df_of c X G 48 47 rfl rfl fun _ _ _ _ _ _ us hl => match us, hl with | [_, _, _, _, _], _ => rfl
theorem df_wCaught (c : Said w h K) (X : K.In h) (G : h.Ns mainGlobals mg) : ∃ D : Df K mg "_law_caught" sWCaught ["_law_call"], D.f = He.ga K "_law_caught" := df_of c X G 49 48 rfl rfl fun _ _ _ _ _ _ us hl => match us, hl with | [_], _ => rfl
theorem df_wChosen (c : Said w h K) (X : K.In h) (G : h.Ns mainGlobals mg) : ∃ D : Df K mg "_law_chosen" sWChosen ["_law_rows"], D.f = He.ga K "_law_chosen" := df_of c X G 50 49 rfl rfl fun _ _ _ _ _ _ us hl => match us, hl with | [_], _ => rfl
theorem df_wRefusedRight (c : Said w h K) (X : K.In h) (G : h.Ns mainGlobals mg) : ∃ D : Df K mg "_law_refused_right" sWRefusedRight [], D.f = He.ga K "_law_refused_right" := df_of c X G 51 50 rfl rfl fun _ _ _ _ _ _ us hl => match us, hl with | [], _ => rfl
theorem df_wListRight (c : Said w h K) (X : K.In h) (G : h.Ns mainGlobals mg) : ∃ D : Df K mg "_law_list_right" sWListRight ["_law_units_so", "_law_told"], D.f = He.ga K "_law_list_right" := df_of c X G 52 51 rfl rfl fun _ _ _ _ _ _ us hl => match us, hl with | [_, _], _ => rfl
theorem df_wStockRight (c : Said w h K) (X : K.In h) (G : h.Ns mainGlobals mg) : ∃ D : Df K mg "_law_stock_right" sWStockRight ["_law_state", "_law_units_so", "_law_plan_so", "_law_stock", "_law_seen"], D.f = He.ga K "_law_stock_right" := df_of c X G 53 52 rfl rfl fun _ _ _ _ _ _ us hl => match us, hl with | [_, _, _, _, _], _ => rfl
theorem df_law (c : Said w h K) (X : K.In h) (G : h.Ns mainGlobals mg) : ∃ D : Df K mg "law" sLaw ["_law_script"], D.f = He.ga K "law" := df_of c X G 54 53 rfl rfl fun _ _ _ _ _ _ us hl => match us, hl with | [_], _ => rfl
theorem ex_BadUnits (c : Said w h K) (X : K.In h) (G : h.Ns mainGlobals mg) (he : excAll K (He.ga K "BadUnits") (He.ma K (He.ga K "BadUnits") "__init__") = true) : ∃ D : Ex K mg "BadUnits" "BadUnits.__init__" "value" sBadUnitsInit, D.C = He.ga K "BadUnits" := ex_of c X G 1 0 77 rfl rfl rfl he fun _ _ _ _ _ _ us hl => match us, hl with | [_, _], _ => rfl
theorem ex_BadRow (c : Said w h K) (X : K.In h) (G : h.Ns mainGlobals mg) (he : excAll K (He.ga K "BadRow") (He.ma K (He.ga K "BadRow") "__init__") = true) : ∃ D : Ex K mg "BadRow" "BadRow.__init__" "value" sBadRowInit, D.C = He.ga K "BadRow" := ex_of c X G 2 1 78 rfl rfl rfl he fun _ _ _ _ _ _ us hl => match us, hl with | [_, _], _ => rfl
theorem ex_BadPlan (c : Said w h K) (X : K.In h) (G : h.Ns mainGlobals mg) (he : excAll K (He.ga K "BadPlan") (He.ma K (He.ga K "BadPlan") "__init__") = true) : ∃ D : Ex K mg "BadPlan" "BadPlan.__init__" "path" sBadPlanInit, D.C = He.ga K "BadPlan" := ex_of c X G 3 2 79 rfl rfl rfl he fun _ _ _ _ _ _ us hl => match us, hl with | [_, _], _ => rfl
theorem ex_TooGreat (c : Said w h K) (X : K.In h) (G : h.Ns mainGlobals mg) (he : excAll K (He.ga K "TooGreat") (He.ma K (He.ga K "TooGreat") "__init__") = true) : ∃ D : Ex K mg "TooGreat" "TooGreat.__init__" "most" sTooGreatInit, D.C = He.ga K "TooGreat" := ex_of c X G 4 3 80 rfl rfl rfl he fun _ _ _ _ _ _ us hl => match us, hl with | [_, _], _ => rfl
/-- what the defs ask -/
theorem wt_of (c : Said w h K) (X : K.In h) (G : h.Ns mainGlobals mg) : ∃ T : Wt K mg, T.law.f = He.ga K "law" ∧ [(T.cN, T.pN), (T.cR, T.pR)] = tfL.map (He.cT K) := by
  have more := c.more
  unfold exL at more
  simp only [Bool.and_eq_true] at more
  obtain ⟨⟨⟨⟨⟨m1, m2⟩, m3⟩, m4⟩, m5⟩, m6⟩ := more
  obtain ⟨d_isFrom, e_isFrom⟩ := df_isFrom c X G
  obtain ⟨d_needUnits, e_needUnits⟩ := df_needUnits c X G
  obtain ⟨d_isRow, e_isRow⟩ := df_isRow c X G
  obtain ⟨d_needRow, e_needRow⟩ := df_needRow c X G
  obtain ⟨d_added, e_added⟩ := df_added c X G
  obtain ⟨d_less, e_less⟩ := df_less c X G
  obtain ⟨d_stairFrom, e_stairFrom⟩ := df_stairFrom c X G
  obtain ⟨d_rowFrom, e_rowFrom⟩ := df_rowFrom c X G
  obtain ⟨d_upStair, e_upStair⟩ := df_upStair c X G
  obtain ⟨d_downStair, e_downStair⟩ := df_downStair c X G
  obtain ⟨d_liesWithin, e_liesWithin⟩ := df_liesWithin c X G
  obtain ⟨d_isEnough, e_isEnough⟩ := df_isEnough c X G
  obtain ⟨d_unlikeOf, e_unlikeOf⟩ := df_unlikeOf c X G
  obtain ⟨d_kept, e_kept⟩ := df_kept c X G
  obtain ⟨d_greatestOf, e_greatestOf⟩ := df_greatestOf c X G
  obtain ⟨d_greaterOf, e_greaterOf⟩ := df_greaterOf c X G
  obtain ⟨d_pairsOf, e_pairsOf⟩ := df_pairsOf c X G
  obtain ⟨d_leastStairs, e_leastStairs⟩ := df_leastStairs c X G
  obtain ⟨d_rowsOf, e_rowsOf⟩ := df_rowsOf c X G
  obtain ⟨d_livesFrom, e_livesFrom⟩ := df_livesFrom c X G
  obtain ⟨d_hasForm, e_hasForm⟩ := df_hasForm c X G
  obtain ⟨d_isStep, e_isStep⟩ := df_isStep c X G
  obtain ⟨d_placesIn, e_placesIn⟩ := df_placesIn c X G
  obtain ⟨d_needForms, e_needForms⟩ := df_needForms c X G
  obtain ⟨d_needPlan, e_needPlan⟩ := df_needPlan c X G
  obtain ⟨d_lives, e_lives⟩ := df_lives c X G
  obtain ⟨d_planStocks, e_planStocks⟩ := df_planStocks c X G
  obtain ⟨d_planLacks, e_planLacks⟩ := df_planLacks c X G
  obtain ⟨d_stillAsked, e_stillAsked⟩ := df_stillAsked c X G
  obtain ⟨d_wMixed, e_wMixed⟩ := df_wMixed c X G
  obtain ⟨d_wBegin, e_wBegin⟩ := df_wBegin c X G
  obtain ⟨d_wDraw, e_wDraw⟩ := df_wDraw c X G
  obtain ⟨d_wOf, e_wOf⟩ := df_wOf c X G
  obtain ⟨d_wSizes, e_wSizes⟩ := df_wSizes c X G
  obtain ⟨d_wRow, e_wRow⟩ := df_wRow c X G
  obtain ⟨d_wBeside, e_wBeside⟩ := df_wBeside c X G
  obtain ⟨d_wWithout, e_wWithout⟩ := df_wWithout c X G
  obtain ⟨d_wCuts, e_wCuts⟩ := df_wCuts c X G
  obtain ⟨d_wFits, e_wFits⟩ := df_wFits c X G
  obtain ⟨d_wLefts, e_wLefts⟩ := df_wLefts c X G
  obtain ⟨d_wLike, e_wLike⟩ := df_wLike c X G
  obtain ⟨d_wSmallUnits, e_wSmallUnits⟩ := df_wSmallUnits c X G
  obtain ⟨d_wSmallPlan, e_wSmallPlan⟩ := df_wSmallPlan c X G
  obtain ⟨d_wLive, e_wLive⟩ := df_wLive c X G
  obtain ⟨d_wCaught, e_wCaught⟩ := df_wCaught c X G
  obtain ⟨d_wChosen, e_wChosen⟩ := df_wChosen c X G
  obtain ⟨d_wRefusedRight, e_wRefusedRight⟩ := df_wRefusedRight c X G
  obtain ⟨d_wListRight, e_wListRight⟩ := df_wListRight c X G
  obtain ⟨d_wStockRight, e_wStockRight⟩ := df_wStockRight c X G
  obtain ⟨d_law, e_law⟩ := df_law c X G
  obtain ⟨x_BadUnits, y_BadUnits⟩ := ex_BadUnits c X G m1
  obtain ⟨x_BadRow, y_BadRow⟩ := ex_BadRow c X G m2
  obtain ⟨x_BadPlan, y_BadPlan⟩ := ex_BadPlan c X G m3
  obtain ⟨x_TooGreat, y_TooGreat⟩ := ex_TooGreat c X G m4
  obtain ⟨t_MostUnits, c_MostUnits⟩ := He.int_ok X G (c.t.d.fact 55 (f := .int "MOST_UNITS" (3)) rfl)
  obtain ⟨t_MostRatio, c_MostRatio⟩ := He.int_ok X G (c.t.d.fact 56 (f := .int "MOST_RATIO" (10)) rfl)
  obtain ⟨t_MostPieces, c_MostPieces⟩ := He.int_ok X G (c.t.d.fact 57 (f := .int "MOST_PIECES" (10 ^ 60)) rfl)
  obtain ⟨t_MostLeast, c_MostLeast⟩ := He.int_ok X G (c.t.d.fact 58 (f := .int "MOST_LEAST" (40)) rfl)
  obtain ⟨t_MostDeep, c_MostDeep⟩ := He.int_ok X G (c.t.d.fact 59 (f := .int "MOST_DEEP" (16)) rfl)
  obtain ⟨t_MostParts, c_MostParts⟩ := He.int_ok X G (c.t.d.fact 60 (f := .int "MOST_PARTS" (60)) rfl)
  exact ⟨{
    isFrom := d_isFrom
    needUnits := d_needUnits
    isRow := d_isRow
    needRow := d_needRow
    added := d_added
    less := d_less
    stairFrom := d_stairFrom
    rowFrom := d_rowFrom
    upStair := d_upStair
    downStair := d_downStair
    liesWithin := d_liesWithin
    isEnough := d_isEnough
    unlikeOf := d_unlikeOf
    kept := d_kept
    greatestOf := d_greatestOf
    greaterOf := d_greaterOf
    pairsOf := d_pairsOf
    leastStairs := d_leastStairs
    rowsOf := d_rowsOf
    livesFrom := d_livesFrom
    hasForm := d_hasForm
    isStep := d_isStep
    placesIn := d_placesIn
    needForms := d_needForms
    needPlan := d_needPlan
    lives := d_lives
    planStocks := d_planStocks
    planLacks := d_planLacks
    stillAsked := d_stillAsked
    wMixed := d_wMixed
    wBegin := d_wBegin
    wDraw := d_wDraw
    wOf := d_wOf
    wSizes := d_wSizes
    wRow := d_wRow
    wBeside := d_wBeside
    wWithout := d_wWithout
    wCuts := d_wCuts
    wFits := d_wFits
    wLefts := d_wLefts
    wLike := d_wLike
    wSmallUnits := d_wSmallUnits
    wSmallPlan := d_wSmallPlan
    wLive := d_wLive
    wCaught := d_wCaught
    wChosen := d_wChosen
    wRefusedRight := d_wRefusedRight
    wListRight := d_wListRight
    wStockRight := d_wStockRight
    law := d_law
    nLen := He.free_ok X G (c.t.d.fact 62 (f := .free "len") rfl)
    nIsinstance := He.free_ok X G (c.t.d.fact 63 (f := .free "isinstance") rfl)
    nInt := He.free_ok X G (c.t.d.fact 64 (f := .free "int") rfl)
    nBool := He.free_ok X G (c.t.d.fact 65 (f := .free "bool") rfl)
    nTuple := He.free_ok X G (c.t.d.fact 66 (f := .free "tuple") rfl)
    nStr := He.free_ok X G (c.t.d.fact 67 (f := .free "str") rfl)
    nZip := He.free_ok X G (c.t.d.fact 68 (f := .free "zip") rfl)
    nEnumerate := He.free_ok X G (c.t.d.fact 69 (f := .free "enumerate") rfl)
    nReversed := He.free_ok X G (c.t.d.fact 70 (f := .free "reversed") rfl)
    nRange := He.free_ok X G (c.t.d.fact 71 (f := .free "range") rfl)
    nSorted := He.free_ok X G (c.t.d.fact 72 (f := .free "sorted") rfl)
    nMin := He.free_ok X G (c.t.d.fact 73 (f := .free "min") rfl)
    nMax := He.free_ok X G (c.t.d.fact 74 (f := .free "max") rfl)
    nRepr := He.free_ok X G (c.t.d.fact 75 (f := .free "repr") rfl)
    nList := He.free_ok X G (c.t.d.fact 76 (f := .free "list") rfl)
    nValueError := He.free_ok X G (c.t.d.fact 61 (f := .free "ValueError") rfl)
    tMostUnits := t_MostUnits
    cMostUnits := c_MostUnits
    tMostRatio := t_MostRatio
    cMostRatio := c_MostRatio
    tMostPieces := t_MostPieces
    cMostPieces := c_MostPieces
    tMostLeast := t_MostLeast
    cMostLeast := c_MostLeast
    tMostDeep := t_MostDeep
    cMostDeep := c_MostDeep
    tMostParts := t_MostParts
    cMostParts := c_MostParts
    badUnits := x_BadUnits
    badRow := x_BadRow
    badPlan := x_BadPlan
    tooGreat := x_TooGreat
    Y := He.ga K "YardError"
    gY := He.glo_ok X G (c.t.d.fact 0 (f := .glo "YardError") rfl)
    yard := yardB_ok m5
    uu := (by rw [y_BadUnits]; exact He.exm_ok (c.t.d.fact 81 (f := .exm "BadUnits" "BadUnits" true) rfl))
    pu := (by rw [y_BadPlan, y_BadUnits]; exact He.exm_ok (c.t.d.fact 82 (f := .exm "BadPlan" "BadUnits" false) rfl))
    pp := (by rw [y_BadPlan]; exact He.exm_ok (c.t.d.fact 83 (f := .exm "BadPlan" "BadPlan" true) rfl))
    ru := (by rw [y_BadRow, y_BadUnits]; exact He.exm_ok (c.t.d.fact 84 (f := .exm "BadRow" "BadUnits" false) rfl))
    rp := (by rw [y_BadRow, y_BadPlan]; exact He.exm_ok (c.t.d.fact 85 (f := .exm "BadRow" "BadPlan" false) rfl))
    rr := (by rw [y_BadRow]; exact He.exm_ok (c.t.d.fact 86 (f := .exm "BadRow" "BadRow" true) rfl))
    gu := (by rw [y_TooGreat, y_BadUnits]; exact He.exm_ok (c.t.d.fact 87 (f := .exm "TooGreat" "BadUnits" false) rfl))
    gp := (by rw [y_TooGreat, y_BadPlan]; exact He.exm_ok (c.t.d.fact 88 (f := .exm "TooGreat" "BadPlan" false) rfl))
    gr := (by rw [y_TooGreat, y_BadRow]; exact He.exm_ok (c.t.d.fact 89 (f := .exm "TooGreat" "BadRow" false) rfl))
    gg := (by rw [y_TooGreat]; exact He.exm_ok (c.t.d.fact 90 (f := .exm "TooGreat" "TooGreat" true) rfl))
    cN := (He.cT K ("need_plan", none)).1
    pN := (He.cT K ("need_plan", none)).2
    cR := (He.cT K ("_law_refused_right", none)).1
    pR := (He.cT K ("_law_refused_right", none)).2
    codeN := code_of d_needPlan e_needPlan
    codeR := code_of d_wRefusedRight e_wRefusedRight
    ne := bne_iff_ne.mp m6 }, e_law, rfl⟩
end
/-- the law's run -/
theorem law_run {K : PySem.W.Frag} {mg mb : Str → Option Value} {w : World} {s : Shared} {fa a : Addr} {vs : List Value} {ns : List Int} (X : K.In s.heap) (c : Said w s.heap K) (G : s.heap.Ns mainGlobals mg) (hb : s.heap.Ns builtinsNs mb) (hbb : ∀ y : Str, y ≠ "__name__" → mb y = bootBuiltins y) (lim : s.heap.NoLimit) (gen : s.gens = #[])
    (hm : ∃ (m : Addr) (ob : Obj), mg "__builtins__" = some (.ref m) ∧ m ≠ builtinsNs ∧ s.heap.get? m = some ob ∧ ob.cls = .type "module" ∧ ob.dict = some builtinsNs ∧ ob.data = .plain) (hmg : mg "law" = some (.ref fa)) (ho : s.heap.get? a = some { cls := .type "list", data := .seq vs.toArray }) (hi : IntsAre vs ns) (hl : ns.length ≤ 63) :
    codeAny (model R40.prog w) callerA (.call (.ref fa) ⟨[.ref a], []⟩) (fun r s' => r = .ok (.ret (.bool true)) ∧ OldK s.heap s'.heap ∧ s'.os = s.os ∧ AllBare s'.gens) s := by
  obtain ⟨T, eT, eC⟩ := wt_of c X G
  obtain rfl : fa = T.law.f := by
    have e := T.law.g
    rw [hmg] at e
    cases e
    rfl
  have big : ns.length ≤ sizeLine := Nat.le_trans hl (by decide)
  have cE : ∀ p ∈ [(T.cN, T.pN), (T.cR, T.pR)], s.heap.get? p.2 = some { cls := .none, data := .fields #[] } ∧ K.lookup p.2 = none ∧ PySem.W.CodeHd s.heap p.1 p.2 := fun p hp => by
    rw [eC] at hp
    obtain ⟨q, hq, rfl⟩ := List.mem_map.mp hp
    exact ⟨c.empty q hq, c.out q hq, PySem.W.codeHd_of_K X (c.hd q hq)⟩
  have tsE : ∀ t ∈ [(T.cN, T.pN), (T.cR, T.pR)].map (·.2), s.heap.get? t = some { cls := .none, data := .fields #[] } := fun t ht => by
    obtain ⟨p, hp, rfl⟩ := List.mem_map.mp ht
    exact (cE p hp).1
  have aN : a ∉ [(T.cN, T.pN), (T.cR, T.pR)].map (·.2) := fun z => by
    have q := tsE a z
    rw [ho] at q
    cases q
  have go : ∀ t : Option HO, (t = none ∨ (K.lookup a = none ∧ t = some (.frz { cls := .type "list", data := .seq vs.toArray } (.lst (ns.map V.int))))) → SqL K (begH ([(T.cN, T.pN), (T.cR, T.pR)].map (·.2)) a t) a (ns.map V.int) →
      codeAny (model R40.prog w) callerA (.call (.ref T.law.f) ⟨[.ref a], []⟩) (fun r s' => r = .ok (.ret (.bool true)) ∧ OldK s.heap s'.heap ∧ s'.os = s.os ∧ AllBare s'.gens) s := by
    intro t ht hS
    have bg : Beg K (begH ([(T.cN, T.pN), (T.cR, T.pR)].map (·.2)) a t) s.heap a ([(T.cN, T.pN), (T.cR, T.pR)].map (·.2)) := by
      refine ⟨fun _ m => begH_in m, tsE, fun b nb => ?_, ⟨_, _, _, ho, rfl⟩⟩
      rw [begH_out nb]
      by_cases e : b = a
      · rw [if_pos e]
        rcases ht with rfl | ⟨hk, rfl⟩
        · exact .inl rfl
        · exact .inr ⟨e, hk, _, _, rfl⟩
      · rw [if_neg e]
        exact .inl rfl
    have ok : HOk R40.prog w (begH ([(T.cN, T.pN), (T.cR, T.pR)].map (·.2)) a t) s.heap := by
      intro b u e
      by_cases m : b ∈ [(T.cN, T.pN), (T.cR, T.pR)].map (·.2)
      · rw [begH_in m] at e
        cases e
        exact tsE b m
      · rw [begH_out m] at e
        by_cases q : b = a
        · rw [if_pos q] at e
          rcases ht with rfl | ⟨hk, rfl⟩
          · cases e
          · cases e
            subst q
            exact ⟨ho, by rw [List.length_map]; exact big, vs, _, vals_ints hi, ho⟩
        · rw [if_neg q] at e
          cases e
    refine beg_call (k := 27) (x := "_law_script") (sp := spLaw K (T0 T)) bg X G hb hbb lim gen (fun p hp => (cE p hp).2.1) (fun p hp => (cE p hp).2.2) hm ⟨rfl, by decide, by decide⟩ ok (fun base _ _ tb => ok_law T (tb (T.cN, T.pN) (by simp)) (tb (T.cR, T.pR) (by simp))) T.law.b ?_
    refine ⟨a, ns, rfl, hS, hl, fun p hp => TabS.nil (begH_in ?_), fun _ => rfl⟩
    have hp : p ∈ [(T.pN, ("need_plan.<locals>.<lambda>" : Str)), (T.pR, "_law_refused_right.<locals>.<lambda>")] := hp
    simp only [List.mem_cons, List.not_mem_nil, or_false] at hp
    rcases hp with rfl | rfl <;> simp
  cases hk : K.lookup a with
  | none =>
    refine go _ (.inr ⟨hk, rfl⟩) (.inl (.inr ⟨{ cls := .type "list", data := .seq vs.toArray }, ?_⟩))
    rw [begH_out aN]
    exact if_pos rfl
  | some o =>
    have e := X a o hk
    rw [ho] at e
    cases e
    exact go none (.inl rfl) (.inr ⟨_, vs.toArray, _, hk, rfl, rfl, rfl, by rw [List.size_toArray, hi.length]; exact big, by simpa using vals_ints hi⟩)
end K40
end
section
set_option Elab.async false
set_option linter.all false
open PySem PySem.W PySem.Calls PyProof.Rows
set_option Elab.async false
set_option maxRecDepth 100000 in
set_option maxHeartbeats 0 in
theorem PySem.Challenge.cw_stairyard_k40_whole_further_asks_and_lac_holds : PySem.Challenge.rw_stairyard_k40_whole_further_asks_and_lac.Holds := by
  w_on; o_law
  refine HandSHeadRun.head_any (r := K40.R40) (q := view K40.R40.prog [67]) (H := K40.hk40) (ob := K40.ob40) (M := 4000) (loose := K40.looseL) (d := HandSHeadRun.topDef K40.R40.prog 67) (kwd := []) K40.ob40_eq (by kernel_rfl) (fun s => by kernel_rfl) K40.run40
    (by kernel_rfl) (by kernel_rfl) (by kernel_rfl) (by rfl) (by first | assumption | decide +kernel) (by decide +kernel) ⟨rfl, rfl, rfl, rfl, rfl, by decide +kernel⟩ ?hw ?hc
  case hw => w_witness2
  case hc =>
    refine Att.attach_call (l := PySem.Challenge.rw_stairyard_k40_whole_further_asks_and_lac) (n := 63) rfl (by kernel_rfl) fun w s₀ s₁ mg mb fa o pmv cdv docv a vs ns gr said fo fdo code named script listed few gens => ?_
    obtain ⟨K, kin, c⟩ := said
    have e : (HandSHeadRun.topDef K40.R40.prog 67).name = ("law" : PySem.Str) := by kernel_rfl
    rw [e] at named
    exact K40.law_run kin c gr.T.g gr.T.b gr.T.builtins gr.T.nolimit gens gr.T.bmain named script listed few
end
