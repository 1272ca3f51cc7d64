import PyProof.Rows.All
import Wide.All
import OpenK.AllK
import Wide.FinOn
import KE.KStateDown
import Lean
import HandS.ForMost
import HandS.Exc
import HandS.WordsExc
import HandS.Defaults
import HandS.Head0
import HandS.Head1
import HandS.Head2
import HandS.HeadEnd
import HandS.HeadHook1
import HandS.HeadHook2
import HandS.HeadHook3
import HandS.HeadHook4
import PySem.Challenge.RW_failswhole_k96_texts_of_deeds_and_batche
import HandS.ExcOwn
import HandS.ExcIs
import HandS.TryOnly
import HandS.IsInst
import HandS.Star
import HandS.FStr
import HandS.Wide
import HandS.Style
import HandS.Zip
import HandS.Deep
import HandS.Small
import HandS.Lambda
import HandS.HeadWalk
import HandS.Walk
import HandS.Text
import KE.IntTextLaws
import HandS.EndTab
set_option Elab.async false
set_option linter.all false
set_option maxRecDepth 100000
set_option maxHeartbeats 2000000
namespace K96
open PySem PySem.Spec PyProof.Rows L2
def top (i : Nat) : Stmt := PySem.Challenge.pw_failswhole_k96_texts_of_deeds_and_batche.main.body.getD i (.Pass ⟨0, 0, 0, 0⟩)
abbrev s_is_name : Stmt := top 7
abbrev s_is_integer_text : Stmt := top 14
abbrev s_is_count_text : Stmt := top 15
abbrev s_read_number : Stmt := top 16
abbrev s_show_value : Stmt := top 17
abbrev s_read_value : Stmt := top 18
abbrev s_must : Stmt := top 22
abbrev s_show_deed : Stmt := top 23
abbrev s_read_deed : Stmt := top 24
abbrev s_show_batch : Stmt := top 25
abbrev s_read_batch : Stmt := top 26
abbrev s_law_deck : Stmt := top 28
abbrev s_law_draw : Stmt := top 29
abbrev s_law_pick : Stmt := top 30
abbrev s_law_is_name : Stmt := top 31
abbrev s_law_is_count : Stmt := top 32
abbrev s_law_name : Stmt := top 33
abbrev s_law_value : Stmt := top 34
abbrev s_law_deed : Stmt := top 35
abbrev s_law_value_text : Stmt := top 36
abbrev s_law_text : Stmt := top 37
abbrev s_law_value_read : Stmt := top 38
abbrev s_law_read : Stmt := top 39
abbrev s_law_batch_read : Stmt := top 40
abbrev s_law_told : Stmt := top 41
abbrev s_law_bent : Stmt := top 42
abbrev s_law_by_hand : Stmt := top 43
abbrev s_law_is_text_right : Stmt := top 44
abbrev s_law : Stmt := top 45
abbrev FnP (K : PySem.W.Frag) (x : Str) (st : Stmt) (f : Addr) (fd : FuncData) : Prop := FunD K x x (defArgs st) (defBody st) (defScope st) [] [] f fd
def d_is_name : He.DefD := ⟨("is_name", none), "is_name", "is_name", defArgs s_is_name, defBody s_is_name, defScope s_is_name, [], []⟩
def d_is_integer_text : He.DefD := ⟨("is_integer_text", none), "is_integer_text", "is_integer_text", defArgs s_is_integer_text, defBody s_is_integer_text, defScope s_is_integer_text, [], []⟩
def d_is_count_text : He.DefD := ⟨("is_count_text", none), "is_count_text", "is_count_text", defArgs s_is_count_text, defBody s_is_count_text, defScope s_is_count_text, [], []⟩
def d_read_number : He.DefD := ⟨("read_number", none), "read_number", "read_number", defArgs s_read_number, defBody s_read_number, defScope s_read_number, [], []⟩
def d_show_value : He.DefD := ⟨("show_value", none), "show_value", "show_value", defArgs s_show_value, defBody s_show_value, defScope s_show_value, [], []⟩
def d_read_value : He.DefD := ⟨("read_value", none), "read_value", "read_value", defArgs s_read_value, defBody s_read_value, defScope s_read_value, [], []⟩
def d_must : He.DefD := ⟨("must", none), "must", "must", defArgs s_must, defBody s_must, defScope s_must, [], []⟩
def d_show_deed : He.DefD := ⟨("show_deed", none), "show_deed", "show_deed", defArgs s_show_deed, defBody s_show_deed, defScope s_show_deed, [], []⟩
def d_read_deed : He.DefD := ⟨("read_deed", none), "read_deed", "read_deed", defArgs s_read_deed, defBody s_read_deed, defScope s_read_deed, [], []⟩
def d_show_batch : He.DefD := ⟨("show_batch", none), "show_batch", "show_batch", defArgs s_show_batch, defBody s_show_batch, defScope s_show_batch, [], []⟩
def d_read_batch : He.DefD := ⟨("read_batch", none), "read_batch", "read_batch", defArgs s_read_batch, defBody s_read_batch, defScope s_read_batch, [], []⟩
def d_law_deck : He.DefD := ⟨("_law_deck", none), "_law_deck", "_law_deck", defArgs s_law_deck, defBody s_law_deck, defScope s_law_deck, [], []⟩
def d_law_draw : He.DefD := ⟨("_law_draw", none), "_law_draw", "_law_draw", defArgs s_law_draw, defBody s_law_draw, defScope s_law_draw, [], []⟩
def d_law_pick : He.DefD := ⟨("_law_pick", none), "_law_pick", "_law_pick", defArgs s_law_pick, defBody s_law_pick, defScope s_law_pick, [], []⟩
def d_law_is_name : He.DefD := ⟨("_law_is_name", none), "_law_is_name", "_law_is_name", defArgs s_law_is_name, defBody s_law_is_name, defScope s_law_is_name, [], []⟩
def d_law_is_count : He.DefD := ⟨("_law_is_count", none), "_law_is_count", "_law_is_count", defArgs s_law_is_count, defBody s_law_is_count, defScope s_law_is_count, [], []⟩
def d_law_name : He.DefD := ⟨("_law_name", none), "_law_name", "_law_name", defArgs s_law_name, defBody s_law_name, defScope s_law_name, [], []⟩
def d_law_value : He.DefD := ⟨("_law_value", none), "_law_value", "_law_value", defArgs s_law_value, defBody s_law_value, defScope s_law_value, [], []⟩
def d_law_deed : He.DefD := ⟨("_law_deed", none), "_law_deed", "_law_deed", defArgs s_law_deed, defBody s_law_deed, defScope s_law_deed, [], []⟩
def d_law_value_text : He.DefD := ⟨("_law_value_text", none), "_law_value_text", "_law_value_text", defArgs s_law_value_text, defBody s_law_value_text, defScope s_law_value_text, [], []⟩
def d_law_text : He.DefD := ⟨("_law_text", none), "_law_text", "_law_text", defArgs s_law_text, defBody s_law_text, defScope s_law_text, [], []⟩
def d_law_value_read : He.DefD := ⟨("_law_value_read", none), "_law_value_read", "_law_value_read", defArgs s_law_value_read, defBody s_law_value_read, defScope s_law_value_read, [], []⟩
def d_law_read : He.DefD := ⟨("_law_read", none), "_law_read", "_law_read", defArgs s_law_read, defBody s_law_read, defScope s_law_read, [], []⟩
def d_law_batch_read : He.DefD := ⟨("_law_batch_read", none), "_law_batch_read", "_law_batch_read", defArgs s_law_batch_read, defBody s_law_batch_read, defScope s_law_batch_read, [], []⟩
def d_law_told : He.DefD := ⟨("_law_told", none), "_law_told", "_law_told", defArgs s_law_told, defBody s_law_told, defScope s_law_told, [], []⟩
def d_law_bent : He.DefD := ⟨("_law_bent", none), "_law_bent", "_law_bent", defArgs s_law_bent, defBody s_law_bent, defScope s_law_bent, [], []⟩
def d_law_by_hand : He.DefD := ⟨("_law_by_hand", none), "_law_by_hand", "_law_by_hand", defArgs s_law_by_hand, defBody s_law_by_hand, defScope s_law_by_hand, [], []⟩
def d_law_is_text_right : He.DefD := ⟨("_law_is_text_right", none), "_law_is_text_right", "_law_is_text_right", defArgs s_law_is_text_right, defBody s_law_is_text_right, defScope s_law_is_text_right, [], []⟩
def d_law : He.DefD := ⟨("law", none), "law", "law", defArgs s_law, defBody s_law, defScope s_law, [], []⟩
def fn : List He.DefD := [d_is_name, d_is_integer_text, d_is_count_text, d_read_number, d_show_value, d_read_value, d_must, d_show_deed, d_read_deed, d_show_batch, d_read_batch, d_law_deck, d_law_draw, d_law_pick, d_law_is_name, d_law_is_count, d_law_name, d_law_value, d_law_deed, d_law_value_text, d_law_text, d_law_value_read, d_law_read, d_law_batch_read, d_law_told, d_law_bent, d_law_by_hand, d_law_is_text_right, d_law]
def glos : List Str := fn.map fun d => d.name
def fa : List He.Fa := fn.map (fun d => He.Fa.glo d.name) ++
  [.glo "FailsError", .glo "InvalidText", .int "RANGE" 1000000000000, .str "LETTERS" "abcdefghijklmnopqrstuvwxyz", .int "MOST_LETTERS" 8, .str "PUT" "put", .str "TAKE" "take", .str "FIGURES" "0123456789", .int "LONGEST" 14, .str "NOTHING" "nothing", .str "BLANK" " ", .str "BREAK" "\n",
   .free "isinstance", .free "str", .free "len", .free "all", .free "tuple", .free "int", .free "max", .free "min", .free "abs", .free "range", .free "enumerate", .free "zip", .free "repr",
   .keep "InvalidText", .keep "FailsError", .exm "InvalidText" "InvalidText" true]
abbrev excB : List Value := [.type "Exception", .type "BaseException", .type "object"]
def exc2 (K : PySem.W.Frag) (D F : Addr) : Bool :=
  decide (PySem.W.findIn K (.ref D) "__getattribute__" = some (some (.builtin "BaseException.__getattribute__"))) && (decide (PySem.W.findIn K (.ref D) "__getattr__" = some none) && (PySem.W.hasDictIn K D && (decide (PySem.W.findIn K (.ref D) "__class__" = some (some (.builtin "object.__class__"))) &&
    (decide (PySem.W.specialIn K (.builtin "object.__class__") "__get__" = some (some (.builtin "getset_descriptor.__get__"))) && (decide (PySem.W.takesIn K (.builtin "object.__class__") = some true) && (decide (PySem.W.mroIn K D (.type "object") = some true) && (decide (PySem.W.kitOne K (.ref D) (.ref F) = some true) && decide ((He.cT K ("_law_is_text_right", none)).2 ≠ (He.cT K ("law", none)).2))))))))
def ex (K : PySem.W.Frag) : Bool :=
  PySem.W.excIn K (He.ga K "InvalidText") excB "Exception.__new__" && (decide (PySem.W.subIn K (.ref (He.ga K "InvalidText")) (.type "BaseException") = some true) &&
    (decide (PySem.W.typeIn K (.ref (He.ga K "InvalidText")) = some (.type "type")) && (decide (PySem.W.subIn K (.ref (He.ga K "InvalidText")) (.ref (He.ga K "FailsError")) = some true) && exc2 K (He.ga K "InvalidText") (He.ga K "FailsError"))))
def tf : List He.Defn := [("_law_is_text_right", none), ("law", none)]
abbrev R : PySem.W.OpenRow := PySem.W.OpenLaw.row PySem.Challenge.rw_failswhole_k96_texts_of_deeds_and_batche
abbrev hk : PySem.W.Hook := He.hookX 4 fa fn [] tf ex
def ob (s : PySem.W.SharedT) : He.AlX := He.obsX 4 fa fn [] tf ex (HandSHeadRun.getT s)
theorem ob_eq (s : PySem.W.SharedT) : ob s = hk.obs s.abs := He.obsX_eq (HandSHeadRun.getT_eq s)
def names : List Str := ["FailsError", "InvalidText", "RANGE", "LETTERS", "MOST_LETTERS", "is_name", "PUT", "TAKE", "FIGURES", "LONGEST", "NOTHING", "is_integer_text", "is_count_text", "read_number", "show_value", "read_value", "BLANK", "BREAK", "must", "show_deed", "read_deed", "show_batch", "read_batch", "_law_deck", "_law_draw", "_law_pick", "_law_is_name", "_law_is_count", "_law_name", "_law_value"]
def names2 : List Str := ["_law_deed", "_law_value_text", "_law_text", "_law_value_read", "_law_read", "_law_batch_read", "_law_told", "_law_bent", "_law_by_hand", "_law_is_text_right"]
theorem run (w : World) : HandSHeadRun.RunEq R (PySem.W.view R.prog [45]) hk ob 3000 (names ++ names2) w := by
  intro os
  kernel_rfl
end K96

namespace G96
open PySem PySem.Spec PyProof.Rows L2
section
variable {X : Cx}
/-- repr of data, where no repr is under way -/
def rRepr (K : PySem.W.Frag) : List V → Hp → VK → Prop := fun xs H Q => ∃ a d, xs = [.ref a] ∧ Dp K H (.ref a) d ∧ d.showable = true ∧ d.hasDict = false ∧ d.depth < 40 ∧ d.shown.length ≤ sizeLine ∧ Q (.str d.shown) H
theorem call_repr (hg : X.A.guards = some []) (hu : X.A.units + 64 < cLine) : CallR X (.builtin "repr") (rRepr X.K) := by
  intro pins s σ H xs us Q I rv h
  obtain ⟨a, d, rfl, hd, h1, h2, h3, h4, hq⟩ := h
  obtain ⟨u, rfl, rx⟩ := vals1 rv
  cases rx
  obtain ⟨as, hr⟩ := Dp.reads I d (.ref a) (.ref a) hd rfl
  exact repr_of_reads' hr h1 (PyData.noDict_hsm h2) hg (by omega) (fun b o e => e) (fun h' u tk k => ⟨.str d.shown, H, I.kept k, ⟨_, rfl⟩, hq⟩) h4
/-- X() of an own class without own __init__ -/
theorem pmk_own0 {C : Addr} {bmB : List Value} {B newId initId : String} {x : Str} {p pos : Pos} (F : ExcBaseFacts B newId initId bmB) (q : PySem.W.excIn X.K C bmB newId = true) (gC : X.mg x = some (.ref C))
    (kC : PySem.W.keepIn X.K (.ref C) = true) (r : Raises X (.ref C)) (hg : Gl X x) (hdb : (x == ("__debug__" : Str)) = false := by decide) :
    PMk X (.Call (.Name x p) [] [] pos) (fun _ H Q => Q (.ref C) none H) := by
  intro pins s σ H Q I hq
  refine wpAny_Call_Name_kw (ld_glob I hg gC ?_ hdb)
  refine PySem.W.callWith_K0 I.kIn kC ?_
  show wpAny _ _ (call (.ref C) []) _ _ _
  obtain ⟨bm, N, nm, qn, bs, hdct, sn, sub, ab, col, dd, k0, k1, k2, k3, k5, mN, hC, hN, hni, T⟩ := exc_obj I.kIn q
  refine wpAny_call_exc_subT F T hC hN hni (fun h' e hm => ?_) (Nat.zero_le _)
  exact mk_of I hm r hq (I.hok.gone hm.new)
/-- a module's number, a module's text -/
theorem pe_gInt {x : Str} {i : Int} {pos : Pos} (h : ∃ t, X.mg x = some (.int i t)) (hg : Gl X x) (hd : (x == ("__debug__" : Str)) = false := by decide) : PE X (.Name x pos) (tC (.int i)) := by
  obtain ⟨t, e⟩ := h
  exact pe_glob hg e ⟨t, rfl⟩ hd
theorem pe_gStr {x z : Str} {pos : Pos} (h : ∃ t, X.mg x = some (.str z t)) (hg : Gl X x) (hd : (x == ("__debug__" : Str)) = false := by decide) : PE X (.Name x pos) (tC (.str z)) := by
  obtain ⟨t, e⟩ := h
  exact pe_glob hg e ⟨t, rfl⟩ hd
end
/-- a def of the text, as its callers see it: one keyword may be used for the only parameter -/
structure OkC (P : Program) (w : World) (K : PySem.W.Frag) (mg : Str → Option Value) (base : Heap) (CX : CXT) (k : Nat) (x : Str) (ps : List Str) (sp : Sp) : Prop where
  ex : ∃ f fd, FnOk P w K mg base CX k f fd ps sp ∧ Binds K fd ps [] ∧ KBn K fd ps 0 ps (fun _ ws => ws) (fun _ zs => zs) ∧ mg x = some (.ref f) ∧ PySem.W.keepIn K (.ref f) = true
section
variable {X : Cx} {CX : CXT} {k j : Nat} {ps ks : List Str} {sp : Sp} {E : XK} {x : Str} {p pos : Pos} {e : Expr} {es : List Expr} {kws : List Keyword} {t tk : TA}
theorem pe_c (c : OkC X.prog X.w X.K X.mg X.base CX k x ps sp) (hr : Room j X.A) (hk : k ≤ j) (hg : Gl X x) (hx : Passes CX X E) (ha : PA X (e :: es) t) (hdb : (x == ("__debug__" : Str)) = false := by decide)
    (he : starEach (e :: es) X.env = (false, eval e X.env) :: starEach es X.env := by rfl) (hpl : (backTo pos (starEach es X.env)).any (·.1) = false := by rfl) : PE X (.Call (.Name x p) (e :: es) [] pos) (tCall sp [] E t) := by
  obtain ⟨f, fd, F, b, _, hm, kp⟩ := c.ex
  exact pe_call F (hr.mono hk) hg hm kp b .nil hx ha hdb he hpl
theorem pe_c0 (c : OkC X.prog X.w X.K X.mg X.base CX k x ps sp) (hr : Room j X.A) (hk : k ≤ j) (hg : Gl X x) (hx : Passes CX X E) (hdb : (x == ("__debug__" : Str)) = false := by decide) :
    PE X (.Call (.Name x p) [] [] pos) (tCall sp [] E tNil) := by
  obtain ⟨f, fd, F, b, _, hm, kp⟩ := c.ex
  exact pe_call0 F (hr.mono hk) hg hm kp b .nil hx hdb
/-- f(k = v): no positional value -/
theorem pe_ck (c : OkC X.prog X.w X.K X.mg X.base CX k x ps sp) (hr : Room j X.A) (hk : k ≤ j) (hg : Gl X x) (hx : Passes CX X E) (hkw : PK X kws tk)
    (hall : (backToKw pos (keywordEach kws X.env)).all (·.1.isSome) = true := by rfl) (hks : (backToKw pos (keywordEach kws X.env)).filterMap (·.1) = ps := by rfl) (hdb : (x == ("__debug__" : Str)) = false := by decide)
    (hpl : ((backTo pos (starEach [] X.env)).any (·.1) || (backToKw pos (keywordEach kws X.env)).any (·.1.isNone)) = false := by rfl) :
    PE X (.Call (.Name x p) [] kws pos) (fun σ H Q => tk σ H fun zs H1 => zs.length = ps.length ∧ sp zs H1 Q E) := by
  obtain ⟨f, fd, F, _, b, hm, kp⟩ := c.ex
  refine ⟨fun pins s σ H Q I h => ?_⟩
  refine wpAny_Call_Name_kw (ld_glob I hg hm ?_ hdb)
  refine PySem.W.callWith_KW0 (h₀ := X.base) I.ok.mod.kin kp hall ?_ hpl
  refine thn (hkw.run pos pins s σ H _ I h) fun ws s1 ⟨zs, H1, I1, rz, l, q⟩ => ⟨I1.kIn, ?_⟩
  rw [hks]
  exact run_fnN (us := []) (vs := []) F (hr.mono hk) b hx I1 .nil rz rfl l q
end
/-- the only parameter, by its name -/
theorem kb_one {K : PySem.W.Frag} {x qual : Str} {params : Arguments} {body : List Stmt} {scope : Scope} {f : Addr} {fd : FuncData} {ps : List Str} (F : FunD K x qual params body scope [] [] f fd)
    (h : ∀ (kV doc pm : Value) (an : Option Addr) (cdv ct : Value) (ws : List Value), ws.length = ps.length → bindArgs (PySem.W.fnOf x qual params body scope .none kV doc pm an cdv ct) ⟨[], ps.zip ws⟩ = pure (ps.zip ws)) :
    KBn K fd ps 0 ps (fun _ ws => ws) (fun _ zs => zs) := by
  obtain ⟨oc, od, dV, kV, doc, pm, an, cdv, ct, osl, rfl, lk, hcd, hD, hK⟩ := F.ex
  rcases hD with ⟨_, rfl⟩ | ⟨e, _⟩
  · refine ⟨fun s us ws _ hu hl => ?_, fun _ r => r⟩
    obtain rfl : us = [] := List.length_eq_zero_iff.mp hu
    exact .of_eq (h kV doc pm an cdv ct ws hl)
  · exact absurd rfl e
end G96

namespace K96
open PySem PySem.Spec PyProof.Rows L2 G96
structure Tx (K : PySem.W.Frag) (mg : Str → Option Value) (base : Heap) : Prop where
  c : He.SaysD fa fn K
  X : K.In base
  G : base.Ns mainGlobals mg
  e : ex K = true
section
variable {K : PySem.W.Frag} {mg : Str → Option Value} {base : Heap}
theorem Tx.m_is_name (Z : Tx K mg base) : mg "is_name" = some (.ref (He.ga K "is_name")) := He.glo_ok Z.X Z.G (Z.c.fact 0 (f := .glo "is_name") rfl)
theorem Tx.m_is_integer_text (Z : Tx K mg base) : mg "is_integer_text" = some (.ref (He.ga K "is_integer_text")) := He.glo_ok Z.X Z.G (Z.c.fact 1 (f := .glo "is_integer_text") rfl)
theorem Tx.m_is_count_text (Z : Tx K mg base) : mg "is_count_text" = some (.ref (He.ga K "is_count_text")) := He.glo_ok Z.X Z.G (Z.c.fact 2 (f := .glo "is_count_text") rfl)
theorem Tx.m_read_number (Z : Tx K mg base) : mg "read_number" = some (.ref (He.ga K "read_number")) := He.glo_ok Z.X Z.G (Z.c.fact 3 (f := .glo "read_number") rfl)
theorem Tx.m_show_value (Z : Tx K mg base) : mg "show_value" = some (.ref (He.ga K "show_value")) := He.glo_ok Z.X Z.G (Z.c.fact 4 (f := .glo "show_value") rfl)
theorem Tx.m_read_value (Z : Tx K mg base) : mg "read_value" = some (.ref (He.ga K "read_value")) := He.glo_ok Z.X Z.G (Z.c.fact 5 (f := .glo "read_value") rfl)
theorem Tx.m_must (Z : Tx K mg base) : mg "must" = some (.ref (He.ga K "must")) := He.glo_ok Z.X Z.G (Z.c.fact 6 (f := .glo "must") rfl)
theorem Tx.m_show_deed (Z : Tx K mg base) : mg "show_deed" = some (.ref (He.ga K "show_deed")) := He.glo_ok Z.X Z.G (Z.c.fact 7 (f := .glo "show_deed") rfl)
theorem Tx.m_read_deed (Z : Tx K mg base) : mg "read_deed" = some (.ref (He.ga K "read_deed")) := He.glo_ok Z.X Z.G (Z.c.fact 8 (f := .glo "read_deed") rfl)
theorem Tx.m_show_batch (Z : Tx K mg base) : mg "show_batch" = some (.ref (He.ga K "show_batch")) := He.glo_ok Z.X Z.G (Z.c.fact 9 (f := .glo "show_batch") rfl)
theorem Tx.m_read_batch (Z : Tx K mg base) : mg "read_batch" = some (.ref (He.ga K "read_batch")) := He.glo_ok Z.X Z.G (Z.c.fact 10 (f := .glo "read_batch") rfl)
theorem Tx.m__law_deck (Z : Tx K mg base) : mg "_law_deck" = some (.ref (He.ga K "_law_deck")) := He.glo_ok Z.X Z.G (Z.c.fact 11 (f := .glo "_law_deck") rfl)
theorem Tx.m__law_draw (Z : Tx K mg base) : mg "_law_draw" = some (.ref (He.ga K "_law_draw")) := He.glo_ok Z.X Z.G (Z.c.fact 12 (f := .glo "_law_draw") rfl)
theorem Tx.m__law_pick (Z : Tx K mg base) : mg "_law_pick" = some (.ref (He.ga K "_law_pick")) := He.glo_ok Z.X Z.G (Z.c.fact 13 (f := .glo "_law_pick") rfl)
theorem Tx.m__law_is_name (Z : Tx K mg base) : mg "_law_is_name" = some (.ref (He.ga K "_law_is_name")) := He.glo_ok Z.X Z.G (Z.c.fact 14 (f := .glo "_law_is_name") rfl)
theorem Tx.m__law_is_count (Z : Tx K mg base) : mg "_law_is_count" = some (.ref (He.ga K "_law_is_count")) := He.glo_ok Z.X Z.G (Z.c.fact 15 (f := .glo "_law_is_count") rfl)
theorem Tx.m__law_name (Z : Tx K mg base) : mg "_law_name" = some (.ref (He.ga K "_law_name")) := He.glo_ok Z.X Z.G (Z.c.fact 16 (f := .glo "_law_name") rfl)
theorem Tx.m__law_value (Z : Tx K mg base) : mg "_law_value" = some (.ref (He.ga K "_law_value")) := He.glo_ok Z.X Z.G (Z.c.fact 17 (f := .glo "_law_value") rfl)
theorem Tx.m__law_deed (Z : Tx K mg base) : mg "_law_deed" = some (.ref (He.ga K "_law_deed")) := He.glo_ok Z.X Z.G (Z.c.fact 18 (f := .glo "_law_deed") rfl)
theorem Tx.m__law_value_text (Z : Tx K mg base) : mg "_law_value_text" = some (.ref (He.ga K "_law_value_text")) := He.glo_ok Z.X Z.G (Z.c.fact 19 (f := .glo "_law_value_text") rfl)
theorem Tx.m__law_text (Z : Tx K mg base) : mg "_law_text" = some (.ref (He.ga K "_law_text")) := He.glo_ok Z.X Z.G (Z.c.fact 20 (f := .glo "_law_text") rfl)
theorem Tx.m__law_value_read (Z : Tx K mg base) : mg "_law_value_read" = some (.ref (He.ga K "_law_value_read")) := He.glo_ok Z.X Z.G (Z.c.fact 21 (f := .glo "_law_value_read") rfl)
theorem Tx.m__law_read (Z : Tx K mg base) : mg "_law_read" = some (.ref (He.ga K "_law_read")) := He.glo_ok Z.X Z.G (Z.c.fact 22 (f := .glo "_law_read") rfl)
theorem Tx.m__law_batch_read (Z : Tx K mg base) : mg "_law_batch_read" = some (.ref (He.ga K "_law_batch_read")) := He.glo_ok Z.X Z.G (Z.c.fact 23 (f := .glo "_law_batch_read") rfl)
theorem Tx.m__law_told (Z : Tx K mg base) : mg "_law_told" = some (.ref (He.ga K "_law_told")) := He.glo_ok Z.X Z.G (Z.c.fact 24 (f := .glo "_law_told") rfl)
theorem Tx.m__law_bent (Z : Tx K mg base) : mg "_law_bent" = some (.ref (He.ga K "_law_bent")) := He.glo_ok Z.X Z.G (Z.c.fact 25 (f := .glo "_law_bent") rfl)
theorem Tx.m__law_by_hand (Z : Tx K mg base) : mg "_law_by_hand" = some (.ref (He.ga K "_law_by_hand")) := He.glo_ok Z.X Z.G (Z.c.fact 26 (f := .glo "_law_by_hand") rfl)
theorem Tx.m__law_is_text_right (Z : Tx K mg base) : mg "_law_is_text_right" = some (.ref (He.ga K "_law_is_text_right")) := He.glo_ok Z.X Z.G (Z.c.fact 27 (f := .glo "_law_is_text_right") rfl)
theorem Tx.m_law (Z : Tx K mg base) : mg "law" = some (.ref (He.ga K "law")) := He.glo_ok Z.X Z.G (Z.c.fact 28 (f := .glo "law") rfl)
theorem Tx.m_FailsError (Z : Tx K mg base) : mg "FailsError" = some (.ref (He.ga K "FailsError")) := He.glo_ok Z.X Z.G (Z.c.fact 29 (f := .glo "FailsError") rfl)
theorem Tx.m_InvalidText (Z : Tx K mg base) : mg "InvalidText" = some (.ref (He.ga K "InvalidText")) := He.glo_ok Z.X Z.G (Z.c.fact 30 (f := .glo "InvalidText") rfl)
theorem Tx.g_RANGE (Z : Tx K mg base) : ∃ t, mg "RANGE" = some (.int 1000000000000 t) := He.int_ok Z.X Z.G (Z.c.fact 31 (f := .int "RANGE" 1000000000000) rfl)
theorem Tx.g_LETTERS (Z : Tx K mg base) : ∃ t, mg "LETTERS" = some (.str "abcdefghijklmnopqrstuvwxyz" t) := He.str_ok Z.X Z.G (Z.c.fact 32 (f := .str "LETTERS" "abcdefghijklmnopqrstuvwxyz") rfl)
theorem Tx.g_MOST_LETTERS (Z : Tx K mg base) : ∃ t, mg "MOST_LETTERS" = some (.int 8 t) := He.int_ok Z.X Z.G (Z.c.fact 33 (f := .int "MOST_LETTERS" 8) rfl)
theorem Tx.g_PUT (Z : Tx K mg base) : ∃ t, mg "PUT" = some (.str "put" t) := He.str_ok Z.X Z.G (Z.c.fact 34 (f := .str "PUT" "put") rfl)
theorem Tx.g_TAKE (Z : Tx K mg base) : ∃ t, mg "TAKE" = some (.str "take" t) := He.str_ok Z.X Z.G (Z.c.fact 35 (f := .str "TAKE" "take") rfl)
theorem Tx.g_FIGURES (Z : Tx K mg base) : ∃ t, mg "FIGURES" = some (.str "0123456789" t) := He.str_ok Z.X Z.G (Z.c.fact 36 (f := .str "FIGURES" "0123456789") rfl)
theorem Tx.g_LONGEST (Z : Tx K mg base) : ∃ t, mg "LONGEST" = some (.int 14 t) := He.int_ok Z.X Z.G (Z.c.fact 37 (f := .int "LONGEST" 14) rfl)
theorem Tx.g_NOTHING (Z : Tx K mg base) : ∃ t, mg "NOTHING" = some (.str "nothing" t) := He.str_ok Z.X Z.G (Z.c.fact 38 (f := .str "NOTHING" "nothing") rfl)
theorem Tx.g_BLANK (Z : Tx K mg base) : ∃ t, mg "BLANK" = some (.str " " t) := He.str_ok Z.X Z.G (Z.c.fact 39 (f := .str "BLANK" " ") rfl)
theorem Tx.g_BREAK (Z : Tx K mg base) : ∃ t, mg "BREAK" = some (.str "\n" t) := He.str_ok Z.X Z.G (Z.c.fact 40 (f := .str "BREAK" "\n") rfl)
theorem Tx.n_isinstance (Z : Tx K mg base) : mg "isinstance" = none := He.free_ok Z.X Z.G (Z.c.fact 41 (f := .free "isinstance") rfl)
theorem Tx.n_str (Z : Tx K mg base) : mg "str" = none := He.free_ok Z.X Z.G (Z.c.fact 42 (f := .free "str") rfl)
theorem Tx.n_len (Z : Tx K mg base) : mg "len" = none := He.free_ok Z.X Z.G (Z.c.fact 43 (f := .free "len") rfl)
theorem Tx.n_all (Z : Tx K mg base) : mg "all" = none := He.free_ok Z.X Z.G (Z.c.fact 44 (f := .free "all") rfl)
theorem Tx.n_tuple (Z : Tx K mg base) : mg "tuple" = none := He.free_ok Z.X Z.G (Z.c.fact 45 (f := .free "tuple") rfl)
theorem Tx.n_int (Z : Tx K mg base) : mg "int" = none := He.free_ok Z.X Z.G (Z.c.fact 46 (f := .free "int") rfl)
theorem Tx.n_max (Z : Tx K mg base) : mg "max" = none := He.free_ok Z.X Z.G (Z.c.fact 47 (f := .free "max") rfl)
theorem Tx.n_min (Z : Tx K mg base) : mg "min" = none := He.free_ok Z.X Z.G (Z.c.fact 48 (f := .free "min") rfl)
theorem Tx.n_abs (Z : Tx K mg base) : mg "abs" = none := He.free_ok Z.X Z.G (Z.c.fact 49 (f := .free "abs") rfl)
theorem Tx.n_range (Z : Tx K mg base) : mg "range" = none := He.free_ok Z.X Z.G (Z.c.fact 50 (f := .free "range") rfl)
theorem Tx.n_enumerate (Z : Tx K mg base) : mg "enumerate" = none := He.free_ok Z.X Z.G (Z.c.fact 51 (f := .free "enumerate") rfl)
theorem Tx.n_zip (Z : Tx K mg base) : mg "zip" = none := He.free_ok Z.X Z.G (Z.c.fact 52 (f := .free "zip") rfl)
theorem Tx.n_repr (Z : Tx K mg base) : mg "repr" = none := He.free_ok Z.X Z.G (Z.c.fact 53 (f := .free "repr") rfl)
theorem Tx.k_InvalidText (Z : Tx K mg base) : PySem.W.keepIn K (.ref (He.ga K "InvalidText")) = true := Z.c.fact 54 (f := .keep "InvalidText") rfl
theorem Tx.k_FailsError (Z : Tx K mg base) : PySem.W.keepIn K (.ref (He.ga K "FailsError")) = true := Z.c.fact 55 (f := .keep "FailsError") rfl
theorem Tx.te (Z : Tx K mg base) : PySem.W.exmOne K (.ref (He.ga K "InvalidText")) (.ref (He.ga K "InvalidText")) = some true := of_decide_eq_true (Z.c.fact 56 (f := .exm "InvalidText" "InvalidText" true) rfl)
abbrev cIT (K : PySem.W.Frag) : Addr := He.ga K "InvalidText"
abbrev cFE (K : PySem.W.Frag) : Addr := He.ga K "FailsError"
theorem Tx.exc (Z : Tx K mg base) : PySem.W.excIn K (cIT K) excB "Exception.__new__" = true := (He.ba Z.e).1
theorem Tx.sub (Z : Tx K mg base) : PySem.W.subIn K (.ref (cIT K)) (.type "BaseException") = some true := of_decide_eq_true (He.ba (He.ba Z.e).2).1
theorem Tx.typ (Z : Tx K mg base) : PySem.W.typeIn K (.ref (cIT K)) = some (.type "type") := of_decide_eq_true (He.ba (He.ba (He.ba Z.e).2).2).1
theorem Tx.subF (Z : Tx K mg base) : PySem.W.subIn K (.ref (cIT K)) (.ref (cFE K)) = some true := of_decide_eq_true (He.ba (He.ba (He.ba (He.ba Z.e).2).2).2).1
theorem Tx.exC (Z : Tx K mg base) : ExcC K (cIT K) := by
  have q := (He.ba (He.ba (He.ba (He.ba Z.e).2).2).2).2
  have h1 := He.ba q
  have h2 := He.ba h1.2
  have h3 := He.ba h2.2
  have h4 := He.ba h3.2
  have h5 := He.ba h4.2
  have h6 := He.ba h5.2
  have h7 := He.ba h6.2
  exact ⟨of_decide_eq_true h1.1, of_decide_eq_true h2.1, Z.sub, h3.1, of_decide_eq_true h4.1, of_decide_eq_true h5.1, of_decide_eq_true h6.1, of_decide_eq_true h7.1⟩
theorem Tx.kit (Z : Tx K mg base) : PySem.W.kitOne K (.ref (cIT K)) (.ref (cFE K)) = some true := by
  have q := (He.ba (He.ba (He.ba (He.ba Z.e).2).2).2).2
  exact of_decide_eq_true (He.ba (He.ba (He.ba (He.ba (He.ba (He.ba (He.ba (He.ba q).2).2).2).2).2).2).2).1
theorem Tx.two (Z : Tx K mg base) : (He.cT K ("_law_is_text_right", none)).2 ≠ (He.cT K ("law", none)).2 := by
  have q := (He.ba (He.ba (He.ba (He.ba Z.e).2).2).2).2
  exact of_decide_eq_true (He.ba (He.ba (He.ba (He.ba (He.ba (He.ba (He.ba (He.ba q).2).2).2).2).2).2).2).2
end
/-! scopes -/
theorem sc_is_name : FnScope ["thing", "letter"] ["thing"] (defScope s_is_name) := ⟨rfl, rfl, rfl, by decide +kernel, rfl, by decide +kernel, by decide +kernel⟩
theorem sc_is_integer_text : FnScope ["text", "digits", "sign"] ["text"] (defScope s_is_integer_text) := ⟨rfl, rfl, rfl, by decide +kernel, rfl, by decide +kernel, by decide +kernel⟩
theorem sc_is_count_text : FnScope ["text"] ["text"] (defScope s_is_count_text) := ⟨rfl, rfl, rfl, by decide +kernel, rfl, by decide +kernel, by decide +kernel⟩
theorem sc_read_number : FnScope ["text"] ["text"] (defScope s_read_number) := ⟨rfl, rfl, rfl, by decide +kernel, rfl, by decide +kernel, by decide +kernel⟩
theorem sc_show_value : FnScope ["value"] ["value"] (defScope s_show_value) := ⟨rfl, rfl, rfl, by decide +kernel, rfl, by decide +kernel, by decide +kernel⟩
theorem sc_read_value : FnScope ["text"] ["text"] (defScope s_read_value) := ⟨rfl, rfl, rfl, by decide +kernel, rfl, by decide +kernel, by decide +kernel⟩
theorem sc_must : FnScope ["good"] ["good"] (defScope s_must) := ⟨rfl, rfl, rfl, by decide +kernel, rfl, by decide +kernel, by decide +kernel⟩
theorem sc_show_deed : FnScope ["deed", "words", "word", "table", "what", "value"] ["deed"] (defScope s_show_deed) := ⟨rfl, rfl, rfl, by decide +kernel, rfl, by decide +kernel, by decide +kernel⟩
theorem sc_read_deed : FnScope ["thing", "words", "word"] ["thing"] (defScope s_read_deed) := ⟨rfl, rfl, rfl, by decide +kernel, rfl, by decide +kernel, by decide +kernel⟩
theorem sc_show_batch : FnScope ["batch", "deed"] ["batch"] (defScope s_show_batch) := ⟨rfl, rfl, rfl, by decide +kernel, rfl, by decide +kernel, by decide +kernel⟩
theorem sc_read_batch : FnScope ["thing", "line"] ["thing"] (defScope s_read_batch) := ⟨rfl, rfl, rfl, by decide +kernel, rfl, by decide +kernel, by decide +kernel⟩
theorem sc_law_deck : FnScope ["script", "cell", "cells", "total"] ["script"] (defScope s_law_deck) := ⟨rfl, rfl, rfl, by decide +kernel, rfl, by decide +kernel, by decide +kernel⟩
theorem sc_law_draw : FnScope ["deck", "many", "mixed", "turn", "cell"] ["deck", "many"] (defScope s_law_draw) := ⟨rfl, rfl, rfl, by decide +kernel, rfl, by decide +kernel, by decide +kernel⟩
theorem sc_law_pick : FnScope ["deck", "some"] ["deck", "some"] (defScope s_law_pick) := ⟨rfl, rfl, rfl, by decide +kernel, rfl, by decide +kernel, by decide +kernel⟩
theorem sc_law_is_name : FnScope ["it", "sign"] ["it"] (defScope s_law_is_name) := ⟨rfl, rfl, rfl, by decide +kernel, rfl, by decide +kernel, by decide +kernel⟩
theorem sc_law_is_count : FnScope ["it", "sign"] ["it"] (defScope s_law_is_count) := ⟨rfl, rfl, rfl, by decide +kernel, rfl, by decide +kernel, by decide +kernel⟩
theorem sc_law_name : FnScope ["deck", "words"] ["deck"] (defScope s_law_name) := ⟨rfl, rfl, rfl, by decide +kernel, rfl, by decide +kernel, by decide +kernel⟩
theorem sc_law_value : FnScope ["deck", "way"] ["deck"] (defScope s_law_value) := ⟨rfl, rfl, rfl, by decide +kernel, rfl, by decide +kernel, by decide +kernel⟩
theorem sc_law_deed : FnScope ["deck", "number", "go"] ["deck"] (defScope s_law_deed) := ⟨rfl, rfl, rfl, by decide +kernel, rfl, by decide +kernel, by decide +kernel⟩
theorem sc_law_value_text : FnScope ["value"] ["value"] (defScope s_law_value_text) := ⟨rfl, rfl, rfl, by decide +kernel, rfl, by decide +kernel, by decide +kernel⟩
theorem sc_law_text : FnScope ["deed", "value"] ["deed"] (defScope s_law_text) := ⟨rfl, rfl, rfl, by decide +kernel, rfl, by decide +kernel, by decide +kernel⟩
theorem sc_law_value_read : FnScope ["it", "digits", "is_right", "number"] ["it"] (defScope s_law_value_read) := ⟨rfl, rfl, rfl, by decide +kernel, rfl, by decide +kernel, by decide +kernel⟩
theorem sc_law_read : FnScope ["it", "words", "some", "word", "one", "is_one", "value"] ["it"] (defScope s_law_read) := ⟨rfl, rfl, rfl, by decide +kernel, rfl, by decide +kernel, by decide +kernel⟩
theorem sc_law_batch_read : FnScope ["it", "found", "line"] ["it"] (defScope s_law_batch_read) := ⟨rfl, rfl, rfl, by decide +kernel, rfl, by decide +kernel, by decide +kernel⟩
theorem sc_law_told : FnScope ["call", "e"] ["call"] (defScope s_law_told) := ⟨rfl, rfl, rfl, by decide +kernel, rfl, by decide +kernel, by decide +kernel⟩
theorem sc_law_bent : FnScope ["deck", "it", "words", "some", "sign", "way", "at", "to", "spot", "far"] ["deck", "it"] (defScope s_law_bent) := ⟨rfl, rfl, rfl, by decide +kernel, rfl, by decide +kernel, by decide +kernel⟩
theorem sc_law_by_hand : FnScope ["found"] ([] : List Str) (defScope s_law_by_hand) := ⟨rfl, rfl, rfl, by decide +kernel, rfl, by decide +kernel, by decide +kernel⟩
theorem sc_law_is_text_right : FnScope ["it", "by_name", "told", "due", "deed", "batch", "one"] ["it", "by_name"] (defScope s_law_is_text_right) := ⟨rfl, rfl, rfl, by decide +kernel, rfl, by decide +kernel, by decide +kernel⟩
theorem sc_law : FnScope ["script", "deck", "batch", "lines", "turn", "some", "thing", "told", "text", "deed", "line", "bent", "again", "at", "it", "go"] ["script"] (defScope s_law) := ⟨rfl, rfl, rfl, by decide +kernel, rfl, by decide +kernel, by decide +kernel⟩
section
variable {P : Program} {w : World} {K : PySem.W.Frag} {mg : Str → Option Value} {base : Heap}
theorem mk0 {x : Str} {st : Stmt} {f : Addr} {fd : FuncData} {N ps : List Str} {k : Nat} {sp : Sp} (hm : mg x = some (.ref f)) (F : FnP K x st f fd) (S : FnScope N ps (defScope st)) (b : Binds K fd ps [])
    (kb : KBn K fd ps 0 ps (fun _ ws => ws) (fun _ zs => zs)) (len : ∀ vs H Q E, sp vs H Q E → vs.length = ps.length)
    (hbody : ∀ (cdv : Value) (A : Around) (outer : List Env) (s : Shared) (H : Hp) (vs : List V) (Q : VK) (E : XK), Room k (A.deeper (envOfC x (defScope st) s.heap.objs.size f cdv)) → sp vs H Q E →
      ∃ t, PSs (cxOf L2.CX0 P w K mg base N x (defScope st) f cdv A outer s H E).nox (defBody st) t ∧ t { nx := fun _ H' => Q .non H', rt := Q } (start N vs) H) : OkC P w K mg base L2.CX0 (k + 1) x ps sp :=
  ⟨f, fd, FunD.ok F S len fun cdv A outer s H vs Q E hr hs => let ⟨t, ht, hq⟩ := hbody cdv A outer s H vs Q E hr hs; ⟨t, ht.nox, hq⟩, b, kb, hm, F.kp⟩
theorem mkX {x : Str} {st : Stmt} {f : Addr} {fd : FuncData} {N ps : List Str} {k : Nat} {sp : Sp} (hm : mg x = some (.ref f)) (F : FnP K x st f fd) (S : FnScope N ps (defScope st)) (b : Binds K fd ps [])
    (kb : KBn K fd ps 0 ps (fun _ ws => ws) (fun _ zs => zs)) (len : ∀ vs H Q E, sp vs H Q E → vs.length = ps.length)
    (hbody : ∀ (cdv : Value) (A : Around) (outer : List Env) (s : Shared) (H : Hp) (vs : List V) (Q : VK) (E : XK), Room k (A.deeper (envOfC x (defScope st) s.heap.objs.size f cdv)) → sp vs H Q E →
      ∃ t, PSs (cxOf (L2.CX P w) P w K mg base N x (defScope st) f cdv A outer s H E) (defBody st) t ∧ t { nx := fun _ H' => Q .non H', rt := Q } (start N vs) H) : OkC P w K mg base (L2.CX P w) (k + 1) x ps sp :=
  ⟨f, fd, FunD.ok F S len hbody, b, kb, hm, F.kp⟩
theorem mk0_is_name {k : Nat} {sp : Sp} (Z : Tx K mg base) {N : List Str} (S : FnScope N ["thing"] (defScope s_is_name)) (len : ∀ vs H Q E, sp vs H Q E → vs.length = 1)
    (hbody : ∀ (cdv : Value) (A : Around) (outer : List Env) (s : Shared) (H : Hp) (vs : List V) (Q : VK) (E : XK), Room k (A.deeper (envOfC "is_name" (defScope s_is_name) s.heap.objs.size (He.ga K "is_name") cdv)) → sp vs H Q E →
      ∃ t, PSs (cxOf L2.CX0 P w K mg base N "is_name" (defScope s_is_name) (He.ga K "is_name") cdv A outer s H E).nox (defBody s_is_name) t ∧ t { nx := fun _ H' => Q .non H', rt := Q } (start N vs) H) : OkC P w K mg base L2.CX0 (k + 1) "is_name" ["thing"] sp := by
  obtain ⟨fd, F⟩ := Z.c.def_ 0 (d := d_is_name) rfl
  have F : FnP K "is_name" s_is_name (He.ga K "is_name") fd := F
  exact mk0 (st := s_is_name) (N := N) Z.m_is_name F S (FunD.bindsN F fun _ _ _ _ _ _ us hl => match us, hl with | [_], _ => rfl) (kb_one F fun _ _ _ _ _ _ us hl => match us, hl with | [_], _ => rfl) len hbody
theorem mk0_is_integer_text {k : Nat} {sp : Sp} (Z : Tx K mg base) {N : List Str} (S : FnScope N ["text"] (defScope s_is_integer_text)) (len : ∀ vs H Q E, sp vs H Q E → vs.length = 1)
    (hbody : ∀ (cdv : Value) (A : Around) (outer : List Env) (s : Shared) (H : Hp) (vs : List V) (Q : VK) (E : XK), Room k (A.deeper (envOfC "is_integer_text" (defScope s_is_integer_text) s.heap.objs.size (He.ga K "is_integer_text") cdv)) → sp vs H Q E →
      ∃ t, PSs (cxOf L2.CX0 P w K mg base N "is_integer_text" (defScope s_is_integer_text) (He.ga K "is_integer_text") cdv A outer s H E).nox (defBody s_is_integer_text) t ∧ t { nx := fun _ H' => Q .non H', rt := Q } (start N vs) H) : OkC P w K mg base L2.CX0 (k + 1) "is_integer_text" ["text"] sp := by
  obtain ⟨fd, F⟩ := Z.c.def_ 1 (d := d_is_integer_text) rfl
  have F : FnP K "is_integer_text" s_is_integer_text (He.ga K "is_integer_text") fd := F
  exact mk0 (st := s_is_integer_text) (N := N) Z.m_is_integer_text F S (FunD.bindsN F fun _ _ _ _ _ _ us hl => match us, hl with | [_], _ => rfl) (kb_one F fun _ _ _ _ _ _ us hl => match us, hl with | [_], _ => rfl) len hbody
theorem mk0_is_count_text {k : Nat} {sp : Sp} (Z : Tx K mg base) {N : List Str} (S : FnScope N ["text"] (defScope s_is_count_text)) (len : ∀ vs H Q E, sp vs H Q E → vs.length = 1)
    (hbody : ∀ (cdv : Value) (A : Around) (outer : List Env) (s : Shared) (H : Hp) (vs : List V) (Q : VK) (E : XK), Room k (A.deeper (envOfC "is_count_text" (defScope s_is_count_text) s.heap.objs.size (He.ga K "is_count_text") cdv)) → sp vs H Q E →
      ∃ t, PSs (cxOf L2.CX0 P w K mg base N "is_count_text" (defScope s_is_count_text) (He.ga K "is_count_text") cdv A outer s H E).nox (defBody s_is_count_text) t ∧ t { nx := fun _ H' => Q .non H', rt := Q } (start N vs) H) : OkC P w K mg base L2.CX0 (k + 1) "is_count_text" ["text"] sp := by
  obtain ⟨fd, F⟩ := Z.c.def_ 2 (d := d_is_count_text) rfl
  have F : FnP K "is_count_text" s_is_count_text (He.ga K "is_count_text") fd := F
  exact mk0 (st := s_is_count_text) (N := N) Z.m_is_count_text F S (FunD.bindsN F fun _ _ _ _ _ _ us hl => match us, hl with | [_], _ => rfl) (kb_one F fun _ _ _ _ _ _ us hl => match us, hl with | [_], _ => rfl) len hbody
theorem mkX_read_number {k : Nat} {sp : Sp} (Z : Tx K mg base) {N : List Str} (S : FnScope N ["text"] (defScope s_read_number)) (len : ∀ vs H Q E, sp vs H Q E → vs.length = 1)
    (hbody : ∀ (cdv : Value) (A : Around) (outer : List Env) (s : Shared) (H : Hp) (vs : List V) (Q : VK) (E : XK), Room k (A.deeper (envOfC "read_number" (defScope s_read_number) s.heap.objs.size (He.ga K "read_number") cdv)) → sp vs H Q E →
      ∃ t, PSs (cxOf (L2.CX P w) P w K mg base N "read_number" (defScope s_read_number) (He.ga K "read_number") cdv A outer s H E) (defBody s_read_number) t ∧ t { nx := fun _ H' => Q .non H', rt := Q } (start N vs) H) : OkC P w K mg base (L2.CX P w) (k + 1) "read_number" ["text"] sp := by
  obtain ⟨fd, F⟩ := Z.c.def_ 3 (d := d_read_number) rfl
  have F : FnP K "read_number" s_read_number (He.ga K "read_number") fd := F
  exact mkX (st := s_read_number) (N := N) Z.m_read_number F S (FunD.bindsN F fun _ _ _ _ _ _ us hl => match us, hl with | [_], _ => rfl) (kb_one F fun _ _ _ _ _ _ us hl => match us, hl with | [_], _ => rfl) len hbody
theorem mk0_show_value {k : Nat} {sp : Sp} (Z : Tx K mg base) {N : List Str} (S : FnScope N ["value"] (defScope s_show_value)) (len : ∀ vs H Q E, sp vs H Q E → vs.length = 1)
    (hbody : ∀ (cdv : Value) (A : Around) (outer : List Env) (s : Shared) (H : Hp) (vs : List V) (Q : VK) (E : XK), Room k (A.deeper (envOfC "show_value" (defScope s_show_value) s.heap.objs.size (He.ga K "show_value") cdv)) → sp vs H Q E →
      ∃ t, PSs (cxOf L2.CX0 P w K mg base N "show_value" (defScope s_show_value) (He.ga K "show_value") cdv A outer s H E).nox (defBody s_show_value) t ∧ t { nx := fun _ H' => Q .non H', rt := Q } (start N vs) H) : OkC P w K mg base L2.CX0 (k + 1) "show_value" ["value"] sp := by
  obtain ⟨fd, F⟩ := Z.c.def_ 4 (d := d_show_value) rfl
  have F : FnP K "show_value" s_show_value (He.ga K "show_value") fd := F
  exact mk0 (st := s_show_value) (N := N) Z.m_show_value F S (FunD.bindsN F fun _ _ _ _ _ _ us hl => match us, hl with | [_], _ => rfl) (kb_one F fun _ _ _ _ _ _ us hl => match us, hl with | [_], _ => rfl) len hbody
theorem mkX_read_value {k : Nat} {sp : Sp} (Z : Tx K mg base) {N : List Str} (S : FnScope N ["text"] (defScope s_read_value)) (len : ∀ vs H Q E, sp vs H Q E → vs.length = 1)
    (hbody : ∀ (cdv : Value) (A : Around) (outer : List Env) (s : Shared) (H : Hp) (vs : List V) (Q : VK) (E : XK), Room k (A.deeper (envOfC "read_value" (defScope s_read_value) s.heap.objs.size (He.ga K "read_value") cdv)) → sp vs H Q E →
      ∃ t, PSs (cxOf (L2.CX P w) P w K mg base N "read_value" (defScope s_read_value) (He.ga K "read_value") cdv A outer s H E) (defBody s_read_value) t ∧ t { nx := fun _ H' => Q .non H', rt := Q } (start N vs) H) : OkC P w K mg base (L2.CX P w) (k + 1) "read_value" ["text"] sp := by
  obtain ⟨fd, F⟩ := Z.c.def_ 5 (d := d_read_value) rfl
  have F : FnP K "read_value" s_read_value (He.ga K "read_value") fd := F
  exact mkX (st := s_read_value) (N := N) Z.m_read_value F S (FunD.bindsN F fun _ _ _ _ _ _ us hl => match us, hl with | [_], _ => rfl) (kb_one F fun _ _ _ _ _ _ us hl => match us, hl with | [_], _ => rfl) len hbody
theorem mkX_must {k : Nat} {sp : Sp} (Z : Tx K mg base) {N : List Str} (S : FnScope N ["good"] (defScope s_must)) (len : ∀ vs H Q E, sp vs H Q E → vs.length = 1)
    (hbody : ∀ (cdv : Value) (A : Around) (outer : List Env) (s : Shared) (H : Hp) (vs : List V) (Q : VK) (E : XK), Room k (A.deeper (envOfC "must" (defScope s_must) s.heap.objs.size (He.ga K "must") cdv)) → sp vs H Q E →
      ∃ t, PSs (cxOf (L2.CX P w) P w K mg base N "must" (defScope s_must) (He.ga K "must") cdv A outer s H E) (defBody s_must) t ∧ t { nx := fun _ H' => Q .non H', rt := Q } (start N vs) H) : OkC P w K mg base (L2.CX P w) (k + 1) "must" ["good"] sp := by
  obtain ⟨fd, F⟩ := Z.c.def_ 6 (d := d_must) rfl
  have F : FnP K "must" s_must (He.ga K "must") fd := F
  exact mkX (st := s_must) (N := N) Z.m_must F S (FunD.bindsN F fun _ _ _ _ _ _ us hl => match us, hl with | [_], _ => rfl) (kb_one F fun _ _ _ _ _ _ us hl => match us, hl with | [_], _ => rfl) len hbody
theorem mk0_show_deed {k : Nat} {sp : Sp} (Z : Tx K mg base) {N : List Str} (S : FnScope N ["deed"] (defScope s_show_deed)) (len : ∀ vs H Q E, sp vs H Q E → vs.length = 1)
    (hbody : ∀ (cdv : Value) (A : Around) (outer : List Env) (s : Shared) (H : Hp) (vs : List V) (Q : VK) (E : XK), Room k (A.deeper (envOfC "show_deed" (defScope s_show_deed) s.heap.objs.size (He.ga K "show_deed") cdv)) → sp vs H Q E →
      ∃ t, PSs (cxOf L2.CX0 P w K mg base N "show_deed" (defScope s_show_deed) (He.ga K "show_deed") cdv A outer s H E).nox (defBody s_show_deed) t ∧ t { nx := fun _ H' => Q .non H', rt := Q } (start N vs) H) : OkC P w K mg base L2.CX0 (k + 1) "show_deed" ["deed"] sp := by
  obtain ⟨fd, F⟩ := Z.c.def_ 7 (d := d_show_deed) rfl
  have F : FnP K "show_deed" s_show_deed (He.ga K "show_deed") fd := F
  exact mk0 (st := s_show_deed) (N := N) Z.m_show_deed F S (FunD.bindsN F fun _ _ _ _ _ _ us hl => match us, hl with | [_], _ => rfl) (kb_one F fun _ _ _ _ _ _ us hl => match us, hl with | [_], _ => rfl) len hbody
theorem mkX_read_deed {k : Nat} {sp : Sp} (Z : Tx K mg base) {N : List Str} (S : FnScope N ["thing"] (defScope s_read_deed)) (len : ∀ vs H Q E, sp vs H Q E → vs.length = 1)
    (hbody : ∀ (cdv : Value) (A : Around) (outer : List Env) (s : Shared) (H : Hp) (vs : List V) (Q : VK) (E : XK), Room k (A.deeper (envOfC "read_deed" (defScope s_read_deed) s.heap.objs.size (He.ga K "read_deed") cdv)) → sp vs H Q E →
      ∃ t, PSs (cxOf (L2.CX P w) P w K mg base N "read_deed" (defScope s_read_deed) (He.ga K "read_deed") cdv A outer s H E) (defBody s_read_deed) t ∧ t { nx := fun _ H' => Q .non H', rt := Q } (start N vs) H) : OkC P w K mg base (L2.CX P w) (k + 1) "read_deed" ["thing"] sp := by
  obtain ⟨fd, F⟩ := Z.c.def_ 8 (d := d_read_deed) rfl
  have F : FnP K "read_deed" s_read_deed (He.ga K "read_deed") fd := F
  exact mkX (st := s_read_deed) (N := N) Z.m_read_deed F S (FunD.bindsN F fun _ _ _ _ _ _ us hl => match us, hl with | [_], _ => rfl) (kb_one F fun _ _ _ _ _ _ us hl => match us, hl with | [_], _ => rfl) len hbody
theorem mk0_show_batch {k : Nat} {sp : Sp} (Z : Tx K mg base) {N : List Str} (S : FnScope N ["batch"] (defScope s_show_batch)) (len : ∀ vs H Q E, sp vs H Q E → vs.length = 1)
    (hbody : ∀ (cdv : Value) (A : Around) (outer : List Env) (s : Shared) (H : Hp) (vs : List V) (Q : VK) (E : XK), Room k (A.deeper (envOfC "show_batch" (defScope s_show_batch) s.heap.objs.size (He.ga K "show_batch") cdv)) → sp vs H Q E →
      ∃ t, PSs (cxOf L2.CX0 P w K mg base N "show_batch" (defScope s_show_batch) (He.ga K "show_batch") cdv A outer s H E).nox (defBody s_show_batch) t ∧ t { nx := fun _ H' => Q .non H', rt := Q } (start N vs) H) : OkC P w K mg base L2.CX0 (k + 1) "show_batch" ["batch"] sp := by
  obtain ⟨fd, F⟩ := Z.c.def_ 9 (d := d_show_batch) rfl
  have F : FnP K "show_batch" s_show_batch (He.ga K "show_batch") fd := F
  exact mk0 (st := s_show_batch) (N := N) Z.m_show_batch F S (FunD.bindsN F fun _ _ _ _ _ _ us hl => match us, hl with | [_], _ => rfl) (kb_one F fun _ _ _ _ _ _ us hl => match us, hl with | [_], _ => rfl) len hbody
theorem mkX_read_batch {k : Nat} {sp : Sp} (Z : Tx K mg base) {N : List Str} (S : FnScope N ["thing"] (defScope s_read_batch)) (len : ∀ vs H Q E, sp vs H Q E → vs.length = 1)
    (hbody : ∀ (cdv : Value) (A : Around) (outer : List Env) (s : Shared) (H : Hp) (vs : List V) (Q : VK) (E : XK), Room k (A.deeper (envOfC "read_batch" (defScope s_read_batch) s.heap.objs.size (He.ga K "read_batch") cdv)) → sp vs H Q E →
      ∃ t, PSs (cxOf (L2.CX P w) P w K mg base N "read_batch" (defScope s_read_batch) (He.ga K "read_batch") cdv A outer s H E) (defBody s_read_batch) t ∧ t { nx := fun _ H' => Q .non H', rt := Q } (start N vs) H) : OkC P w K mg base (L2.CX P w) (k + 1) "read_batch" ["thing"] sp := by
  obtain ⟨fd, F⟩ := Z.c.def_ 10 (d := d_read_batch) rfl
  have F : FnP K "read_batch" s_read_batch (He.ga K "read_batch") fd := F
  exact mkX (st := s_read_batch) (N := N) Z.m_read_batch F S (FunD.bindsN F fun _ _ _ _ _ _ us hl => match us, hl with | [_], _ => rfl) (kb_one F fun _ _ _ _ _ _ us hl => match us, hl with | [_], _ => rfl) len hbody
theorem mk0_law_deck {k : Nat} {sp : Sp} (Z : Tx K mg base) {N : List Str} (S : FnScope N ["script"] (defScope s_law_deck)) (len : ∀ vs H Q E, sp vs H Q E → vs.length = 1)
    (hbody : ∀ (cdv : Value) (A : Around) (outer : List Env) (s : Shared) (H : Hp) (vs : List V) (Q : VK) (E : XK), Room k (A.deeper (envOfC "_law_deck" (defScope s_law_deck) s.heap.objs.size (He.ga K "_law_deck") cdv)) → sp vs H Q E →
      ∃ t, PSs (cxOf L2.CX0 P w K mg base N "_law_deck" (defScope s_law_deck) (He.ga K "_law_deck") cdv A outer s H E).nox (defBody s_law_deck) t ∧ t { nx := fun _ H' => Q .non H', rt := Q } (start N vs) H) : OkC P w K mg base L2.CX0 (k + 1) "_law_deck" ["script"] sp := by
  obtain ⟨fd, F⟩ := Z.c.def_ 11 (d := d_law_deck) rfl
  have F : FnP K "_law_deck" s_law_deck (He.ga K "_law_deck") fd := F
  exact mk0 (st := s_law_deck) (N := N) Z.m__law_deck F S (FunD.bindsN F fun _ _ _ _ _ _ us hl => match us, hl with | [_], _ => rfl) (kb_one F fun _ _ _ _ _ _ us hl => match us, hl with | [_], _ => rfl) len hbody
theorem mk0_law_draw {k : Nat} {sp : Sp} (Z : Tx K mg base) {N : List Str} (S : FnScope N ["deck", "many"] (defScope s_law_draw)) (len : ∀ vs H Q E, sp vs H Q E → vs.length = 2)
    (hbody : ∀ (cdv : Value) (A : Around) (outer : List Env) (s : Shared) (H : Hp) (vs : List V) (Q : VK) (E : XK), Room k (A.deeper (envOfC "_law_draw" (defScope s_law_draw) s.heap.objs.size (He.ga K "_law_draw") cdv)) → sp vs H Q E →
      ∃ t, PSs (cxOf L2.CX0 P w K mg base N "_law_draw" (defScope s_law_draw) (He.ga K "_law_draw") cdv A outer s H E).nox (defBody s_law_draw) t ∧ t { nx := fun _ H' => Q .non H', rt := Q } (start N vs) H) : OkC P w K mg base L2.CX0 (k + 1) "_law_draw" ["deck", "many"] sp := by
  obtain ⟨fd, F⟩ := Z.c.def_ 12 (d := d_law_draw) rfl
  have F : FnP K "_law_draw" s_law_draw (He.ga K "_law_draw") fd := F
  exact mk0 (st := s_law_draw) (N := N) Z.m__law_draw F S (FunD.bindsN F fun _ _ _ _ _ _ us hl => match us, hl with | [_, _], _ => rfl) (kb_one F fun _ _ _ _ _ _ us hl => match us, hl with | [_, _], _ => rfl) len hbody
theorem mk0_law_pick {k : Nat} {sp : Sp} (Z : Tx K mg base) {N : List Str} (S : FnScope N ["deck", "some"] (defScope s_law_pick)) (len : ∀ vs H Q E, sp vs H Q E → vs.length = 2)
    (hbody : ∀ (cdv : Value) (A : Around) (outer : List Env) (s : Shared) (H : Hp) (vs : List V) (Q : VK) (E : XK), Room k (A.deeper (envOfC "_law_pick" (defScope s_law_pick) s.heap.objs.size (He.ga K "_law_pick") cdv)) → sp vs H Q E →
      ∃ t, PSs (cxOf L2.CX0 P w K mg base N "_law_pick" (defScope s_law_pick) (He.ga K "_law_pick") cdv A outer s H E).nox (defBody s_law_pick) t ∧ t { nx := fun _ H' => Q .non H', rt := Q } (start N vs) H) : OkC P w K mg base L2.CX0 (k + 1) "_law_pick" ["deck", "some"] sp := by
  obtain ⟨fd, F⟩ := Z.c.def_ 13 (d := d_law_pick) rfl
  have F : FnP K "_law_pick" s_law_pick (He.ga K "_law_pick") fd := F
  exact mk0 (st := s_law_pick) (N := N) Z.m__law_pick F S (FunD.bindsN F fun _ _ _ _ _ _ us hl => match us, hl with | [_, _], _ => rfl) (kb_one F fun _ _ _ _ _ _ us hl => match us, hl with | [_, _], _ => rfl) len hbody
theorem mk0_law_is_name {k : Nat} {sp : Sp} (Z : Tx K mg base) {N : List Str} (S : FnScope N ["it"] (defScope s_law_is_name)) (len : ∀ vs H Q E, sp vs H Q E → vs.length = 1)
    (hbody : ∀ (cdv : Value) (A : Around) (outer : List Env) (s : Shared) (H : Hp) (vs : List V) (Q : VK) (E : XK), Room k (A.deeper (envOfC "_law_is_name" (defScope s_law_is_name) s.heap.objs.size (He.ga K "_law_is_name") cdv)) → sp vs H Q E →
      ∃ t, PSs (cxOf L2.CX0 P w K mg base N "_law_is_name" (defScope s_law_is_name) (He.ga K "_law_is_name") cdv A outer s H E).nox (defBody s_law_is_name) t ∧ t { nx := fun _ H' => Q .non H', rt := Q } (start N vs) H) : OkC P w K mg base L2.CX0 (k + 1) "_law_is_name" ["it"] sp := by
  obtain ⟨fd, F⟩ := Z.c.def_ 14 (d := d_law_is_name) rfl
  have F : FnP K "_law_is_name" s_law_is_name (He.ga K "_law_is_name") fd := F
  exact mk0 (st := s_law_is_name) (N := N) Z.m__law_is_name F S (FunD.bindsN F fun _ _ _ _ _ _ us hl => match us, hl with | [_], _ => rfl) (kb_one F fun _ _ _ _ _ _ us hl => match us, hl with | [_], _ => rfl) len hbody
theorem mk0_law_is_count {k : Nat} {sp : Sp} (Z : Tx K mg base) {N : List Str} (S : FnScope N ["it"] (defScope s_law_is_count)) (len : ∀ vs H Q E, sp vs H Q E → vs.length = 1)
    (hbody : ∀ (cdv : Value) (A : Around) (outer : List Env) (s : Shared) (H : Hp) (vs : List V) (Q : VK) (E : XK), Room k (A.deeper (envOfC "_law_is_count" (defScope s_law_is_count) s.heap.objs.size (He.ga K "_law_is_count") cdv)) → sp vs H Q E →
      ∃ t, PSs (cxOf L2.CX0 P w K mg base N "_law_is_count" (defScope s_law_is_count) (He.ga K "_law_is_count") cdv A outer s H E).nox (defBody s_law_is_count) t ∧ t { nx := fun _ H' => Q .non H', rt := Q } (start N vs) H) : OkC P w K mg base L2.CX0 (k + 1) "_law_is_count" ["it"] sp := by
  obtain ⟨fd, F⟩ := Z.c.def_ 15 (d := d_law_is_count) rfl
  have F : FnP K "_law_is_count" s_law_is_count (He.ga K "_law_is_count") fd := F
  exact mk0 (st := s_law_is_count) (N := N) Z.m__law_is_count F S (FunD.bindsN F fun _ _ _ _ _ _ us hl => match us, hl with | [_], _ => rfl) (kb_one F fun _ _ _ _ _ _ us hl => match us, hl with | [_], _ => rfl) len hbody
theorem mk0_law_name {k : Nat} {sp : Sp} (Z : Tx K mg base) {N : List Str} (S : FnScope N ["deck"] (defScope s_law_name)) (len : ∀ vs H Q E, sp vs H Q E → vs.length = 1)
    (hbody : ∀ (cdv : Value) (A : Around) (outer : List Env) (s : Shared) (H : Hp) (vs : List V) (Q : VK) (E : XK), Room k (A.deeper (envOfC "_law_name" (defScope s_law_name) s.heap.objs.size (He.ga K "_law_name") cdv)) → sp vs H Q E →
      ∃ t, PSs (cxOf L2.CX0 P w K mg base N "_law_name" (defScope s_law_name) (He.ga K "_law_name") cdv A outer s H E).nox (defBody s_law_name) t ∧ t { nx := fun _ H' => Q .non H', rt := Q } (start N vs) H) : OkC P w K mg base L2.CX0 (k + 1) "_law_name" ["deck"] sp := by
  obtain ⟨fd, F⟩ := Z.c.def_ 16 (d := d_law_name) rfl
  have F : FnP K "_law_name" s_law_name (He.ga K "_law_name") fd := F
  exact mk0 (st := s_law_name) (N := N) Z.m__law_name F S (FunD.bindsN F fun _ _ _ _ _ _ us hl => match us, hl with | [_], _ => rfl) (kb_one F fun _ _ _ _ _ _ us hl => match us, hl with | [_], _ => rfl) len hbody
theorem mk0_law_value {k : Nat} {sp : Sp} (Z : Tx K mg base) {N : List Str} (S : FnScope N ["deck"] (defScope s_law_value)) (len : ∀ vs H Q E, sp vs H Q E → vs.length = 1)
    (hbody : ∀ (cdv : Value) (A : Around) (outer : List Env) (s : Shared) (H : Hp) (vs : List V) (Q : VK) (E : XK), Room k (A.deeper (envOfC "_law_value" (defScope s_law_value) s.heap.objs.size (He.ga K "_law_value") cdv)) → sp vs H Q E →
      ∃ t, PSs (cxOf L2.CX0 P w K mg base N "_law_value" (defScope s_law_value) (He.ga K "_law_value") cdv A outer s H E).nox (defBody s_law_value) t ∧ t { nx := fun _ H' => Q .non H', rt := Q } (start N vs) H) : OkC P w K mg base L2.CX0 (k + 1) "_law_value" ["deck"] sp := by
  obtain ⟨fd, F⟩ := Z.c.def_ 17 (d := d_law_value) rfl
  have F : FnP K "_law_value" s_law_value (He.ga K "_law_value") fd := F
  exact mk0 (st := s_law_value) (N := N) Z.m__law_value F S (FunD.bindsN F fun _ _ _ _ _ _ us hl => match us, hl with | [_], _ => rfl) (kb_one F fun _ _ _ _ _ _ us hl => match us, hl with | [_], _ => rfl) len hbody
theorem mk0_law_deed {k : Nat} {sp : Sp} (Z : Tx K mg base) {N : List Str} (S : FnScope N ["deck"] (defScope s_law_deed)) (len : ∀ vs H Q E, sp vs H Q E → vs.length = 1)
    (hbody : ∀ (cdv : Value) (A : Around) (outer : List Env) (s : Shared) (H : Hp) (vs : List V) (Q : VK) (E : XK), Room k (A.deeper (envOfC "_law_deed" (defScope s_law_deed) s.heap.objs.size (He.ga K "_law_deed") cdv)) → sp vs H Q E →
      ∃ t, PSs (cxOf L2.CX0 P w K mg base N "_law_deed" (defScope s_law_deed) (He.ga K "_law_deed") cdv A outer s H E).nox (defBody s_law_deed) t ∧ t { nx := fun _ H' => Q .non H', rt := Q } (start N vs) H) : OkC P w K mg base L2.CX0 (k + 1) "_law_deed" ["deck"] sp := by
  obtain ⟨fd, F⟩ := Z.c.def_ 18 (d := d_law_deed) rfl
  have F : FnP K "_law_deed" s_law_deed (He.ga K "_law_deed") fd := F
  exact mk0 (st := s_law_deed) (N := N) Z.m__law_deed F S (FunD.bindsN F fun _ _ _ _ _ _ us hl => match us, hl with | [_], _ => rfl) (kb_one F fun _ _ _ _ _ _ us hl => match us, hl with | [_], _ => rfl) len hbody
theorem mk0_law_value_text {k : Nat} {sp : Sp} (Z : Tx K mg base) {N : List Str} (S : FnScope N ["value"] (defScope s_law_value_text)) (len : ∀ vs H Q E, sp vs H Q E → vs.length = 1)
    (hbody : ∀ (cdv : Value) (A : Around) (outer : List Env) (s : Shared) (H : Hp) (vs : List V) (Q : VK) (E : XK), Room k (A.deeper (envOfC "_law_value_text" (defScope s_law_value_text) s.heap.objs.size (He.ga K "_law_value_text") cdv)) → sp vs H Q E →
      ∃ t, PSs (cxOf L2.CX0 P w K mg base N "_law_value_text" (defScope s_law_value_text) (He.ga K "_law_value_text") cdv A outer s H E).nox (defBody s_law_value_text) t ∧ t { nx := fun _ H' => Q .non H', rt := Q } (start N vs) H) : OkC P w K mg base L2.CX0 (k + 1) "_law_value_text" ["value"] sp := by
  obtain ⟨fd, F⟩ := Z.c.def_ 19 (d := d_law_value_text) rfl
  have F : FnP K "_law_value_text" s_law_value_text (He.ga K "_law_value_text") fd := F
  exact mk0 (st := s_law_value_text) (N := N) Z.m__law_value_text F S (FunD.bindsN F fun _ _ _ _ _ _ us hl => match us, hl with | [_], _ => rfl) (kb_one F fun _ _ _ _ _ _ us hl => match us, hl with | [_], _ => rfl) len hbody
theorem mk0_law_text {k : Nat} {sp : Sp} (Z : Tx K mg base) {N : List Str} (S : FnScope N ["deed"] (defScope s_law_text)) (len : ∀ vs H Q E, sp vs H Q E → vs.length = 1)
    (hbody : ∀ (cdv : Value) (A : Around) (outer : List Env) (s : Shared) (H : Hp) (vs : List V) (Q : VK) (E : XK), Room k (A.deeper (envOfC "_law_text" (defScope s_law_text) s.heap.objs.size (He.ga K "_law_text") cdv)) → sp vs H Q E →
      ∃ t, PSs (cxOf L2.CX0 P w K mg base N "_law_text" (defScope s_law_text) (He.ga K "_law_text") cdv A outer s H E).nox (defBody s_law_text) t ∧ t { nx := fun _ H' => Q .non H', rt := Q } (start N vs) H) : OkC P w K mg base L2.CX0 (k + 1) "_law_text" ["deed"] sp := by
  obtain ⟨fd, F⟩ := Z.c.def_ 20 (d := d_law_text) rfl
  have F : FnP K "_law_text" s_law_text (He.ga K "_law_text") fd := F
  exact mk0 (st := s_law_text) (N := N) Z.m__law_text F S (FunD.bindsN F fun _ _ _ _ _ _ us hl => match us, hl with | [_], _ => rfl) (kb_one F fun _ _ _ _ _ _ us hl => match us, hl with | [_], _ => rfl) len hbody
theorem mk0_law_value_read {k : Nat} {sp : Sp} (Z : Tx K mg base) {N : List Str} (S : FnScope N ["it"] (defScope s_law_value_read)) (len : ∀ vs H Q E, sp vs H Q E → vs.length = 1)
    (hbody : ∀ (cdv : Value) (A : Around) (outer : List Env) (s : Shared) (H : Hp) (vs : List V) (Q : VK) (E : XK), Room k (A.deeper (envOfC "_law_value_read" (defScope s_law_value_read) s.heap.objs.size (He.ga K "_law_value_read") cdv)) → sp vs H Q E →
      ∃ t, PSs (cxOf L2.CX0 P w K mg base N "_law_value_read" (defScope s_law_value_read) (He.ga K "_law_value_read") cdv A outer s H E).nox (defBody s_law_value_read) t ∧ t { nx := fun _ H' => Q .non H', rt := Q } (start N vs) H) : OkC P w K mg base L2.CX0 (k + 1) "_law_value_read" ["it"] sp := by
  obtain ⟨fd, F⟩ := Z.c.def_ 21 (d := d_law_value_read) rfl
  have F : FnP K "_law_value_read" s_law_value_read (He.ga K "_law_value_read") fd := F
  exact mk0 (st := s_law_value_read) (N := N) Z.m__law_value_read F S (FunD.bindsN F fun _ _ _ _ _ _ us hl => match us, hl with | [_], _ => rfl) (kb_one F fun _ _ _ _ _ _ us hl => match us, hl with | [_], _ => rfl) len hbody
theorem mk0_law_read {k : Nat} {sp : Sp} (Z : Tx K mg base) {N : List Str} (S : FnScope N ["it"] (defScope s_law_read)) (len : ∀ vs H Q E, sp vs H Q E → vs.length = 1)
    (hbody : ∀ (cdv : Value) (A : Around) (outer : List Env) (s : Shared) (H : Hp) (vs : List V) (Q : VK) (E : XK), Room k (A.deeper (envOfC "_law_read" (defScope s_law_read) s.heap.objs.size (He.ga K "_law_read") cdv)) → sp vs H Q E →
      ∃ t, PSs (cxOf L2.CX0 P w K mg base N "_law_read" (defScope s_law_read) (He.ga K "_law_read") cdv A outer s H E).nox (defBody s_law_read) t ∧ t { nx := fun _ H' => Q .non H', rt := Q } (start N vs) H) : OkC P w K mg base L2.CX0 (k + 1) "_law_read" ["it"] sp := by
  obtain ⟨fd, F⟩ := Z.c.def_ 22 (d := d_law_read) rfl
  have F : FnP K "_law_read" s_law_read (He.ga K "_law_read") fd := F
  exact mk0 (st := s_law_read) (N := N) Z.m__law_read F S (FunD.bindsN F fun _ _ _ _ _ _ us hl => match us, hl with | [_], _ => rfl) (kb_one F fun _ _ _ _ _ _ us hl => match us, hl with | [_], _ => rfl) len hbody
theorem mk0_law_batch_read {k : Nat} {sp : Sp} (Z : Tx K mg base) {N : List Str} (S : FnScope N ["it"] (defScope s_law_batch_read)) (len : ∀ vs H Q E, sp vs H Q E → vs.length = 1)
    (hbody : ∀ (cdv : Value) (A : Around) (outer : List Env) (s : Shared) (H : Hp) (vs : List V) (Q : VK) (E : XK), Room k (A.deeper (envOfC "_law_batch_read" (defScope s_law_batch_read) s.heap.objs.size (He.ga K "_law_batch_read") cdv)) → sp vs H Q E →
      ∃ t, PSs (cxOf L2.CX0 P w K mg base N "_law_batch_read" (defScope s_law_batch_read) (He.ga K "_law_batch_read") cdv A outer s H E).nox (defBody s_law_batch_read) t ∧ t { nx := fun _ H' => Q .non H', rt := Q } (start N vs) H) : OkC P w K mg base L2.CX0 (k + 1) "_law_batch_read" ["it"] sp := by
  obtain ⟨fd, F⟩ := Z.c.def_ 23 (d := d_law_batch_read) rfl
  have F : FnP K "_law_batch_read" s_law_batch_read (He.ga K "_law_batch_read") fd := F
  exact mk0 (st := s_law_batch_read) (N := N) Z.m__law_batch_read F S (FunD.bindsN F fun _ _ _ _ _ _ us hl => match us, hl with | [_], _ => rfl) (kb_one F fun _ _ _ _ _ _ us hl => match us, hl with | [_], _ => rfl) len hbody
theorem mk0_law_told {k : Nat} {sp : Sp} (Z : Tx K mg base) {N : List Str} (S : FnScope N ["call"] (defScope s_law_told)) (len : ∀ vs H Q E, sp vs H Q E → vs.length = 1)
    (hbody : ∀ (cdv : Value) (A : Around) (outer : List Env) (s : Shared) (H : Hp) (vs : List V) (Q : VK) (E : XK), Room k (A.deeper (envOfC "_law_told" (defScope s_law_told) s.heap.objs.size (He.ga K "_law_told") cdv)) → sp vs H Q E →
      ∃ t, PSs (cxOf L2.CX0 P w K mg base N "_law_told" (defScope s_law_told) (He.ga K "_law_told") cdv A outer s H E).nox (defBody s_law_told) t ∧ t { nx := fun _ H' => Q .non H', rt := Q } (start N vs) H) : OkC P w K mg base L2.CX0 (k + 1) "_law_told" ["call"] sp := by
  obtain ⟨fd, F⟩ := Z.c.def_ 24 (d := d_law_told) rfl
  have F : FnP K "_law_told" s_law_told (He.ga K "_law_told") fd := F
  exact mk0 (st := s_law_told) (N := N) Z.m__law_told F S (FunD.bindsN F fun _ _ _ _ _ _ us hl => match us, hl with | [_], _ => rfl) (kb_one F fun _ _ _ _ _ _ us hl => match us, hl with | [_], _ => rfl) len hbody
theorem mk0_law_bent {k : Nat} {sp : Sp} (Z : Tx K mg base) {N : List Str} (S : FnScope N ["deck", "it"] (defScope s_law_bent)) (len : ∀ vs H Q E, sp vs H Q E → vs.length = 2)
    (hbody : ∀ (cdv : Value) (A : Around) (outer : List Env) (s : Shared) (H : Hp) (vs : List V) (Q : VK) (E : XK), Room k (A.deeper (envOfC "_law_bent" (defScope s_law_bent) s.heap.objs.size (He.ga K "_law_bent") cdv)) → sp vs H Q E →
      ∃ t, PSs (cxOf L2.CX0 P w K mg base N "_law_bent" (defScope s_law_bent) (He.ga K "_law_bent") cdv A outer s H E).nox (defBody s_law_bent) t ∧ t { nx := fun _ H' => Q .non H', rt := Q } (start N vs) H) : OkC P w K mg base L2.CX0 (k + 1) "_law_bent" ["deck", "it"] sp := by
  obtain ⟨fd, F⟩ := Z.c.def_ 25 (d := d_law_bent) rfl
  have F : FnP K "_law_bent" s_law_bent (He.ga K "_law_bent") fd := F
  exact mk0 (st := s_law_bent) (N := N) Z.m__law_bent F S (FunD.bindsN F fun _ _ _ _ _ _ us hl => match us, hl with | [_, _], _ => rfl) (kb_one F fun _ _ _ _ _ _ us hl => match us, hl with | [_, _], _ => rfl) len hbody
theorem mk0_law_by_hand {k : Nat} {sp : Sp} (Z : Tx K mg base) {N : List Str} (S : FnScope N ([] : List Str) (defScope s_law_by_hand)) (len : ∀ vs H Q E, sp vs H Q E → vs.length = 0)
    (hbody : ∀ (cdv : Value) (A : Around) (outer : List Env) (s : Shared) (H : Hp) (vs : List V) (Q : VK) (E : XK), Room k (A.deeper (envOfC "_law_by_hand" (defScope s_law_by_hand) s.heap.objs.size (He.ga K "_law_by_hand") cdv)) → sp vs H Q E →
      ∃ t, PSs (cxOf L2.CX0 P w K mg base N "_law_by_hand" (defScope s_law_by_hand) (He.ga K "_law_by_hand") cdv A outer s H E).nox (defBody s_law_by_hand) t ∧ t { nx := fun _ H' => Q .non H', rt := Q } (start N vs) H) : OkC P w K mg base L2.CX0 (k + 1) "_law_by_hand" ([] : List Str) sp := by
  obtain ⟨fd, F⟩ := Z.c.def_ 26 (d := d_law_by_hand) rfl
  have F : FnP K "_law_by_hand" s_law_by_hand (He.ga K "_law_by_hand") fd := F
  exact mk0 (st := s_law_by_hand) (N := N) Z.m__law_by_hand F S (FunD.bindsN F fun _ _ _ _ _ _ us hl => match us, hl with | [], _ => rfl) (kb_one F fun _ _ _ _ _ _ us hl => match us, hl with | [], _ => rfl) len hbody
theorem mk0_law_is_text_right {k : Nat} {sp : Sp} (Z : Tx K mg base) {N : List Str} (S : FnScope N ["it", "by_name"] (defScope s_law_is_text_right)) (len : ∀ vs H Q E, sp vs H Q E → vs.length = 2)
    (hbody : ∀ (cdv : Value) (A : Around) (outer : List Env) (s : Shared) (H : Hp) (vs : List V) (Q : VK) (E : XK), Room k (A.deeper (envOfC "_law_is_text_right" (defScope s_law_is_text_right) s.heap.objs.size (He.ga K "_law_is_text_right") cdv)) → sp vs H Q E →
      ∃ t, PSs (cxOf L2.CX0 P w K mg base N "_law_is_text_right" (defScope s_law_is_text_right) (He.ga K "_law_is_text_right") cdv A outer s H E).nox (defBody s_law_is_text_right) t ∧ t { nx := fun _ H' => Q .non H', rt := Q } (start N vs) H) : OkC P w K mg base L2.CX0 (k + 1) "_law_is_text_right" ["it", "by_name"] sp := by
  obtain ⟨fd, F⟩ := Z.c.def_ 27 (d := d_law_is_text_right) rfl
  have F : FnP K "_law_is_text_right" s_law_is_text_right (He.ga K "_law_is_text_right") fd := F
  exact mk0 (st := s_law_is_text_right) (N := N) Z.m__law_is_text_right F S (FunD.bindsN F fun _ _ _ _ _ _ us hl => match us, hl with | [_, _], _ => rfl) (kb_one F fun _ _ _ _ _ _ us hl => match us, hl with | [_, _], _ => rfl) len hbody
theorem mk0_law {k : Nat} {sp : Sp} (Z : Tx K mg base) {N : List Str} (S : FnScope N ["script"] (defScope s_law)) (len : ∀ vs H Q E, sp vs H Q E → vs.length = 1)
    (hbody : ∀ (cdv : Value) (A : Around) (outer : List Env) (s : Shared) (H : Hp) (vs : List V) (Q : VK) (E : XK), Room k (A.deeper (envOfC "law" (defScope s_law) s.heap.objs.size (He.ga K "law") cdv)) → sp vs H Q E →
      ∃ t, PSs (cxOf L2.CX0 P w K mg base N "law" (defScope s_law) (He.ga K "law") cdv A outer s H E).nox (defBody s_law) t ∧ t { nx := fun _ H' => Q .non H', rt := Q } (start N vs) H) : OkC P w K mg base L2.CX0 (k + 1) "law" ["script"] sp := by
  obtain ⟨fd, F⟩ := Z.c.def_ 28 (d := d_law) rfl
  have F : FnP K "law" s_law (He.ga K "law") fd := F
  exact mk0 (st := s_law) (N := N) Z.m_law F S (FunD.bindsN F fun _ _ _ _ _ _ us hl => match us, hl with | [_], _ => rfl) (kb_one F fun _ _ _ _ _ _ us hl => match us, hl with | [_], _ => rfl) len hbody
end
end K96

namespace G96
open PySem PySem.Spec PyProof.Rows L2
/-- all but D stays -/
def SameX (D : Addr) (H H' : Hp) : Prop := ∀ b o, b ≠ D → H b = some o → H' b = some o
theorem SameX.of {D : Addr} {H H' : Hp} (h : Same H H') : SameX D H H' := fun b o _ e => h b o e
theorem SameX.trans {D : Addr} {H H1 H2 : Hp} (a : SameX D H H1) (b : SameX D H1 H2) : SameX D H H2 := fun c o n e => b c o n (a c o n e)
theorem SameX.upd {D : Addr} {H H1 : Hp} {o : HO} (a : SameX D H H1) : SameX D H (upd H1 D o) := fun c u n e => by
  rw [upd_ne n]
  exact a c u n e
theorem SameX.same {D : Addr} {H H1 : Hp} (a : SameX D H H1) (n : H D = none) : Same H H1 := fun b o e => a b o (ne_of_none e n) e
theorem same_new {H : Hp} {p : Addr} {o : HO} (n : H p = none) : Same H (upd H p o) := fun b u e => by
  rw [upd_ne (ne_of_none e n)]
  exact e
theorem sameNew {H H1 : Hp} {p : Addr} {o : HO} (a : Same H H1) (n : H1 p = none) : Same H (upd H1 p o) := a.trans (same_new n)
section
variable {J : It} {n : Nat} {G : Hp → Prop} {Y : Nat → Hp → V → Hp → Prop} {g : TG} {tt : TT} {te : TE} {vs : List Nat} {σ : L2.St} {H : Hp} {D : Addr} {Qd : Hp → Prop}
/-- a comprehension whose turns leave all that stood as it was -/
theorem lc_grow (w : Walk J n G Y) (hD : H D = none) (hn : n ≤ sizeLine) (P : Nat → List V → Hp → Prop) (h0 : P 0 [] H)
    (mono : ∀ i acc H1 H2, P i acc H1 → (∀ xs, H1 D ≠ some (.tup xs)) → SameX D H1 H2 → P i acc H2) (hG : ∀ H', Same H H' → G H')
    (hs : ∀ i x H1 H1' acc (Kt : V → Hp → Prop) (Kf : Hp → Prop), i < n → Same H H1 → H1 D = some (.lst acc) → P i acc H1 → Y i H1 x H1' → (∀ y H4, Same H1 H4 → P (i + 1) (acc ++ [y]) H4 → Kt y H4) → (∀ H3, Same H1 H3 → P (i + 1) acc H3 → Kf H3) →
      g x (wipe σ vs) H1' fun σ2 H2 => wipe σ2 vs = wipe σ vs ∧ tt σ2 H2 fun b H3 => if b = true then te σ2 H3 Kt else Kf H3)
    (hd : ∀ acc H', Same H H' → H' D = some (.lst acc) → P n acc H' → Qd H') :
    ∃ W : Nat → Nat → Hp → Prop, (∃ m, W 0 m (upd H D (.lst []))) ∧ ∀ i m H, W i m H →
      (J.stop i H ∧ Qd H) ∨ (J.go i H ∧ ∃ Nx : Hp → Prop, (∀ H', Nx H' → ∃ m', m' < m ∧ W (i + 1) m' H') ∧ ∀ x H', J.yld i H x H' → g x (wipe σ vs) H' fun σ2 H2 => wipe σ2 vs = wipe σ vs ∧ tt σ2 H2 fun b H3 =>
        if b = true then te σ2 H3 fun y H4 => ∃ acc, H4 D = some (.lst acc) ∧ acc.length < sizeLine ∧ Nx (upd H4 D (.lst (acc ++ [y]))) else Nx H3) := by
  refine lc_it w (fun i H' => Same H H' ∧ ∃ acc, H' D = some (.lst acc) ∧ acc.length ≤ i ∧ P i acc H') ?_ (fun i H' _ q => hG H' q.1) (fun i x H1 H1' hi q hy => ?_) (fun H' q => ?_)
  · exact ⟨same_new hD, [], upd_same, Nat.le_refl _, mono _ _ _ _ h0 (fun xs z => by rw [hD] at z; cases z) (SameX.of (same_new hD))⟩
  · obtain ⟨sm, acc, hd1, hl, hp⟩ := q
    refine hs i x H1 H1' acc _ _ hi sm hd1 hp hy (fun y H4 s4 p4 => ⟨acc, s4 _ _ hd1, by omega, ?_, _, upd_same, by rw [List.length_append, List.length_singleton]; omega, mono _ _ _ _ p4 (fun xs z => by rw [s4 _ _ hd1] at z; cases z) (fun b o nb e => by rw [upd_ne nb]; exact e)⟩) (fun H3 s3 p3 => ⟨sm.trans s3, acc, s3 _ _ hd1, by omega, p3⟩)
    exact (SameX.upd (SameX.of (sm.trans s4))).same hD
  · obtain ⟨sm, acc, hd1, hl, hp⟩ := q
    exact hd acc H' sm hd1 hp
/-- every item gives F of it -/
theorem lc_map (w : Walk J n G Y) (hD : H D = none) (hn : n ≤ sizeLine) (F : Nat → V) (hG : ∀ H', Same H H' → G H')
    (hs : ∀ i x H1 H1' (Kt : V → Hp → Prop), i < n → Same H H1 → Y i H1 x H1' → (∀ H4, Same H1 H4 → Kt (F i) H4) →
      g x (wipe σ vs) H1' fun σ2 H2 => wipe σ2 vs = wipe σ vs ∧ te σ2 H2 Kt)
    (hd : ∀ H', Same H H' → H' D = some (.lst ((List.range n).map F)) → Qd H') :
    ∃ W : Nat → Nat → Hp → Prop, (∃ m, W 0 m (upd H D (.lst []))) ∧ ∀ i m H, W i m H →
      (J.stop i H ∧ Qd H) ∨ (J.go i H ∧ ∃ Nx : Hp → Prop, (∀ H', Nx H' → ∃ m', m' < m ∧ W (i + 1) m' H') ∧ ∀ x H', J.yld i H x H' → g x (wipe σ vs) H' fun σ2 H2 => wipe σ2 vs = wipe σ vs ∧ tYes σ2 H2 fun b H3 =>
        if b = true then te σ2 H3 fun y H4 => ∃ acc, H4 D = some (.lst acc) ∧ acc.length < sizeLine ∧ Nx (upd H4 D (.lst (acc ++ [y]))) else Nx H3) :=
  lc_grow w hD hn (fun i acc _ => acc = (List.range i).map F) rfl (fun _ _ _ _ e _ _ => e) hG
    (fun i x H1 H1' acc Kt Kf hi sm _ e hy ht _ => hs i x H1 H1' Kt hi sm hy (fun H4 s4 => ht _ H4 s4 (by rw [e, List.range_succ, List.map_append]; rfl)))
    (fun acc H' sm e p => hd H' sm (by rw [e, p]))
end
end G96

namespace G96
open PySem PySem.Spec PyProof.Rows L2
section
variable {X : Cx}
/-- isinstance(x, str) -/
def isStr (x : V) (H : Hp) (Q : Bool → Prop) : Prop := match x with
  | .str _ => Q true
  | .non => Q false
  | .bl _ => Q false
  | .int _ => Q false
  | .ref a => ((∃ xs, H a = some (.lst xs)) ∨ (∃ xs, H a = some (.tup xs)) ∨ ∃ kvs, H a = some (.dK kvs)) ∧ Q false
  | _ => False
def rIsStr : List V → Hp → VK → Prop := fun xs H Q => ∃ x, xs = [x, .ty "str"] ∧ isStr x H fun b => Q (.bl b) H
theorem call_isStr : CallR X (.builtin "isinstance") rIsStr := by
  intro pins s σ H xs us Q I r h
  obtain ⟨x, rfl, q⟩ := h
  have go : ∀ (t : Value) (b : Bool), TyX X.K H x t → PySem.W.kitOne X.K t (.type "str") = some b → Q (.bl b) H → wpAny (model X.prog X.w) X.A (call (.builtin "isinstance") us) (EP X pins σ Q) X.xe s :=
    fun t b ty e q => call_isi pins s σ H [x, .ty "str"] us Q I r ⟨x, .ty "str", t, .type "str", b, rfl, .ty "str", ty, e, q⟩
  cases x with
  | str z => exact go _ true (.base (.str z)) (kit_ty (by decide +kernel)) q
  | non => exact go _ false (.base .non) (kit_ty (by decide +kernel)) q
  | bl b => exact go _ false (.base (.bl b)) (kit_ty (by decide +kernel)) q
  | int i => exact go _ false (.base (.int i)) (kit_ty (by decide +kernel)) q
  | ref a =>
    obtain ⟨⟨ys, e⟩ | ⟨ys, e⟩ | ⟨kvs, e⟩, q⟩ := q
    · exact go _ false (.base (.lst e)) (kit_ty (by decide +kernel)) q
    · exact go _ false (.base (.tup e)) (kit_ty (by decide +kernel)) q
    · exact go _ false (.base (.dK e)) (kit_ty (by decide +kernel)) q
  | byt _ => exact q.elim
  | flt _ => exact q.elim
  | ty _ => exact q.elim
theorem isStr_s {z : Str} {H : Hp} {Q : Bool → Prop} : isStr (.str z) H Q = Q true := rfl
theorem isStr_n {H : Hp} {Q : Bool → Prop} : isStr .non H Q = Q false := rfl
theorem isStr_b {b : Bool} {H : Hp} {Q : Bool → Prop} : isStr (.bl b) H Q = Q false := rfl
theorem isStr_i {i : Int} {H : Hp} {Q : Bool → Prop} : isStr (.int i) H Q = Q false := rfl
theorem isStr_imp {v : V} {H : Hp} {Q : Bool → Prop} (h : isStr v H fun b => b = false) (q : Q false) : isStr v H Q := by
  cases v with
  | str z => cases h
  | non => exact q
  | bl b => exact q
  | int i => exact q
  | ref a => exact ⟨h.1, q⟩
  | byt _ => exact h.elim
  | flt _ => exact h.elim
  | ty _ => exact h.elim
theorem scal_ss {a b : Str} : scal (.str a) (.str b) = true := rfl
theorem scal_ii {a b : Int} : scal (.int a) (.int b) = true := rfl
theorem scal_bb {a b : Bool} : scal (.bl a) (.bl b) = true := rfl
theorem LenV_s {K : PySem.W.Frag} {y : Str} {H : Hp} {n : Nat} : LenV K (.str y) H n = (y.length ≤ sizeLine ∧ n = y.length) := rfl
theorem LenV_l {K : PySem.W.Frag} {p : Addr} {xs : List V} {H : Hp} (h : SqL K H p xs) : LenV K (.ref p) H xs.length := .inl ⟨xs, h, rfl⟩
theorem LenV_t {K : PySem.W.Frag} {p : Addr} {xs : List V} {H : Hp} (h : SqT K H p xs) : LenV K (.ref p) H xs.length := .inr ⟨xs, h, rfl⟩
/-- sep.join(list of texts) -/
def rJoin (K : PySem.W.Frag) : V → List V → Hp → VK → Prop := fun x xs H Q => ∃ (a : Str) (p : Addr) (ys : List Str), x = .str a ∧ xs = [.ref p] ∧ SqL K H p (ys.map V.str) ∧ (ys.map (·.length)).sum + ys.length * a.length ≤ 16777216 ∧ Q (.str (Txt.join a ys)) H
theorem mt_joinF : MtR X "str.join" (rJoin X.K) := by
  intro pins s σ H x xs v us Q I rx r h
  obtain ⟨a, p, ys, e1, e2, h1, h2, h3⟩ := h
  exact mt_join pins s σ H x xs v us Q I rx r ⟨a, p, ys, e1, e2, .inl h1, h2, h3⟩
/-- s.split(sep) -/
def rSplit : V → List V → Hp → VK → Prop := fun x xs H Q => ∃ a b : Str, x = .str a ∧ xs = [.str b] ∧ (b.length == 0) = false ∧ a.length + 2 ≤ sizeLine ∧ rNewStrs (Txt.split a b) H Q
theorem mt_splitF : MtR X "str.split" rSplit := mt_split
/-- int(n), int(flag) -/
def rInt1 : List V → Hp → VK → Prop := fun xs H Q => match xs with
  | [.int i] => Q (.int i) H
  | [.bl b] => Q (.int (if b then 1 else 0)) H
  | _ => False
theorem call_intF : CallR X (.type "int") rInt1 := by
  intro pins s σ H xs us Q I r h
  match xs, h with
  | [.int i], h => exact call_int1 pins s σ H _ us Q I r (.inl ⟨i, rfl, h⟩)
  | [.bl b], h => exact call_int1 pins s σ H _ us Q I r (.inr ⟨b, rfl, h⟩)
end
end G96

namespace G96
open PySem PySem.Spec PyProof.Rows L2
theorem range_getD (z : Array Nat) (f : Nat → V) : (List.range z.size).map (fun i => f (z.getD i 0)) = z.toList.map f := by
  apply List.ext_getElem
  · simp
  · intro i h1 h2
    have h3 : i < z.size := by simpa using h1
    simp [Array.getD, h3]
/-- all([c in S for c in z]) -/
theorem all_in {K : PySem.W.Frag} {z S : Str} {σ : L2.St} {H : Hp} {Q : VK} {i j : Nat} (hi : σ[i]? = some (some (.str z))) (hj : j < σ.length) (hz : z.length ≤ 100000)
    (hQ : ∀ H', Same H H' → Q (.bl (z.cps.toList.all fun c => decide (c ∈ S.cps.toList))) H') :
    tLc (iStr (tVar i)) (gName j) tYes (tOp (fun x y H Q => ∃ (c : Nat), x = .str ⟨#[c]⟩ ∧ ∃ (z : Str), y = .str z ∧ Q (.bl (decide (c ∈ z.cps.toList))) H) (tVar j) (tC (.str S))) [j] σ H fun x H1 => rAll K [x] H1 Q := by
  have line : z.cps.size ≤ sizeLine := Nat.le_trans hz (by decide)
  refine ⟨_, hi, z, rfl, fun D hD => lc_map (G := fun _ => True) walk_str hD line (fun k => .bl (decide (z.cps.getD k 0 ∈ S.cps.toList))) (fun _ _ => trivial) (fun k x H1 H1' Kt hk sm hy ht => ?_) (fun H' sm e => ?_)⟩
  · obtain ⟨rfl, c, hc, rfl⟩ := hy
    have e : z.cps.getD k 0 = c := by
      obtain ⟨h1, h2⟩ := Array.getElem?_eq_some_iff.mp hc
      rw [Array.getD, dif_pos h1]
      exact h2
    rw [e] at ht
    refine ⟨?_, .str ⟨#[c]⟩, ?_, c, rfl, S, rfl, ht _ (Same.refl _)⟩
    · show (((σ.set j none).set j (some (V.str ⟨#[c]⟩))).set j none) = σ.set j none
      simp
    · show ((σ.set j none).set j (some (V.str ⟨#[c]⟩)))[j]? = some (some (V.str ⟨#[c]⟩))
      simp [hj]
  · refine ⟨D, z.cps.toList.map fun c => decide (c ∈ S.cps.toList), rfl, .of ?_, ?_⟩
    · rw [e, range_getD z.cps (fun c => V.bl (decide (c ∈ S.cps.toList))), List.map_map]
      rfl
    · have q : (z.cps.toList.map fun c => decide (c ∈ S.cps.toList)).all id = z.cps.toList.all fun c => decide (c ∈ S.cps.toList) := by rw [List.all_map]; rfl
      rw [q]
      exact hQ H' sm
section
variable {X : Cx}
/-- xs == [], xs != [] -/
def rNil (neg : Bool) (K : PySem.W.Frag) : R2 := fun x y H Q => ∃ a b xs, x = .ref a ∧ y = .ref b ∧ SqL K H a xs ∧ SqL K H b [] ∧ Q (.bl (if neg then !xs.isEmpty else xs.isEmpty)) H
theorem op_eqNil (hu : X.A.units + 64 < cLine) : OpR X (compareOp .Eq) (rNil false X.K) := by
  intro pins s σ H x y v u Q I rx ry h
  obtain ⟨a, b, xs, rfl, rfl, ha, hb, hq⟩ := h
  cases rx
  cases ry
  obtain ⟨its, r, pl, _⟩ := I.list ha
  obtain ⟨jts, r', pl', _⟩ := I.list hb
  cases r'
  have hl := r.length
  cases xs with
  | nil =>
    cases r
    exact SeqAt.eq_listAt (e := fun _ => true) pl.isList pl'.isList rfl (by omega) (fun j h1 _ => absurd h1 (by simp)) ⟨.bl true, H, I, rfl, hq⟩
  | cons y ys =>
    refine SeqAt.eq_list_lengthsAt pl.isList pl'.isList ?_ (by omega) ⟨.bl false, H, I, rfl, hq⟩
    have z : its.toArray.size ≠ 0 := by
      rw [List.size_toArray, ← hl]
      simp
    simpa using z
theorem shaped_ints : ∀ ns : List Int, SeqAt.shaped (.list (ns.map PyData.int)) = true := by
  intro ns
  have h1 : ∀ ns : List Int, PyData.canLayAll0 (ns.map PyData.int) = true := by
    intro ns
    induction ns with
    | nil => rfl
    | cons n ns ih =>
      rw [List.map_cons]
      simp only [PyData.canLayAll0, PyData.canLay0, ih, Bool.and_self]
  have h2 : ∀ ns : List Int, PyData.depthAll (ns.map PyData.int) = 0 := by
    intro ns
    induction ns with
    | nil => rfl
    | cons n ns ih =>
      rw [List.map_cons]
      simp only [PyData.depthAll, PyData.depth, ih, Nat.max_self]
  unfold SeqAt.shaped
  simp only [PyData.canLay0, PyData.depth, h1, h2]
  decide
theorem dp_ints {K : PySem.W.Frag} {H : Hp} : ∀ ns : List Int, DpAll K H (ns.map V.int) (ns.map PyData.int)
  | [] => .nil
  | n :: ns => .cons (.int n) (dp_ints ns)
/-- of whole numbers -/
def rNilI (K : PySem.W.Frag) : R2 := fun x y H Q => ∃ a b, ∃ ns : List Int, x = .ref a ∧ y = .ref b ∧ SqL K H a (ns.map V.int) ∧ SqL K H b [] ∧ Q (.bl (!ns.isEmpty)) H
theorem op_neNil (hu : X.A.units + 64 < cLine) : OpR X (compareOp .NotEq) (rNilI X.K) := by
  intro pins s σ H x y v u Q I rx ry h
  obtain ⟨a, b, ns, rfl, rfl, ha, hb, hq⟩ := h
  refine op_neD hu pins s σ H _ _ v u Q I rx ry ⟨.list (ns.map PyData.int), .list [], .lst ha (dp_ints ns), .lst hb .nil, shaped_ints ns, shaped_ints [], ?_⟩
  cases ns with
  | nil => exact hq
  | cons n ns => exact hq
end
/-- no sign of z passes the test -/
theorem none_passes {K : PySem.W.Frag} {z : Str} {p : Nat → Bool} {tt : TT} {σ : L2.St} {H : Hp} {Q : VK} {i j : Nat} (hi : σ[i]? = some (some (.str z))) (hj : j < σ.length) (hz : z.length ≤ 100000)
    (ht : ∀ (c : Nat) (H1 : Hp) (R : Bool → Hp → Prop), R (p c) H1 → tt ((σ.set j none).set j (some (.str ⟨#[c]⟩))) H1 R)
    (hQ : ∀ H', Same H H' → Q (.bl (z.cps.toList.all fun c => !p c)) H') : tOp (rNil false K) (tLc (iStr (tVar i)) (gName j) tt (tVar j) [j]) (tLst tNil) σ H Q := by
  have line : z.cps.size ≤ sizeLine := Nat.le_trans hz (by decide)
  refine ⟨_, hi, z, rfl, fun D hD => lc_grow (G := fun _ => True) walk_str hD line (fun k acc _ => acc = ((z.cps.toList.take k).filter p).map fun c => V.str ⟨#[c]⟩) rfl (fun _ _ _ _ e _ _ => e) (fun _ _ => trivial) (fun k x H1 H1' acc Kt Kf hk sm hd e hy hkt hkf => ?_) (fun acc H' sm e p' => ?_)⟩
  · obtain ⟨rfl, c, hc, rfl⟩ := hy
    have hc' : z.cps.toList[k]? = some c := by rw [Array.getElem?_toList]; exact hc
    refine ⟨by show (((σ.set j none).set j (some (V.str ⟨#[c]⟩))).set j none) = σ.set j none; simp, ht c _ _ ?_⟩
    cases q : p c with
    | true =>
      rw [if_pos rfl]
      refine ⟨_, by show ((σ.set j none).set j (some (V.str ⟨#[c]⟩)))[j]? = some (some (V.str ⟨#[c]⟩)); simp [hj], hkt _ _ (Same.refl _) ?_⟩
      rw [e, List.take_add_one, hc', Option.toList_some, List.filter_append, List.map_append]
      simp [q]
    | false =>
      rw [if_neg (by decide)]
      refine hkf _ (Same.refl _) ?_
      rw [e, List.take_add_one, hc', Option.toList_some, List.filter_append, List.map_append]
      simp [q]
  · have pe : acc = (z.cps.toList.filter p).map fun c => V.str ⟨#[c]⟩ := by
      rw [p', show z.cps.size = z.cps.toList.length by simp, List.take_length]
    refine ⟨Nat.zero_le _, fun q hq => ⟨D, q, acc, rfl, rfl, .of (by rw [upd_ne (ne_of_none e hq)]; exact e), .of upd_same, ?_⟩⟩
    have b : (if false = true then !acc.isEmpty else acc.isEmpty) = z.cps.toList.all fun c => !p c := by
      rw [if_neg (by decide), pe]
      generalize z.cps.toList = l
      induction l with
      | nil => rfl
      | cons c r ih =>
        cases h : p c with
        | true => simp [h]
        | false =>
          rw [List.filter_cons_of_neg (by rw [h]; decide), List.all_cons, h]
          exact ih
    rw [b]
    exact hQ _ (sameNew sm hq)
end G96

namespace G96
open PySem PySem.Spec PyProof.Rows L2
section
variable {X : Cx} {pins : List (Addr × Obj)} {σ : L2.St} {HB : Hp} {sB s' : Shared} {W : WX} {E : XK} {C : Addr} {m : Str → Option Value} {u : Value}
theorem note_like {e : Value} {ce env : Env} (h : ce.frame = env.frame) : noteFrame e ce = noteFrame e env := by
  unfold noteFrame PySem.frameOf
  rw [h]
/-- an exception of a call leaves a comprehension: noted in the def's own frame, then in the def's air -/
theorem comp_err (hs : X.stack = X.env :: X.outer) (hf : X.env.frame = some X.env.locals) (tk : Takes X W) (hW : ∀ cls d σ H, E cls d H → W cls d σ H)
    (I : Inv X pins σ HB sB) (fp : FpOk X pins HB C) (ns : sB.heap.Ns C m) (c : L2.CX X.prog X.w X.stack HB sB E u s') {ce : Env} (hce : ce.frame = X.env.frame) (K' : Value → Shared → Prop) :
    wpAny (model X.prog X.w) X.A (noteFrame u ce) (fun _ s2 => ∃ m, s2.heap.Ns C m ∧ ∀ h', Heap.SameBut C s2.heap h' →
      wpAny (model X.prog X.w) X.A (PySem.passOn "comprehension.variables-let-go" u ce : Sem Value) (fun _ _ => False) X.xe { s2 with heap := h' }) K' s' := by
  obtain ⟨a, B, H', cls, d, rfl, fl, hok, ub, na, os, ag, hE⟩ := c
  obtain ⟨fC, fL, fS, fX, fc, fP⟩ := fp
  have nC : C ∉ frs X.stack := fun z => (List.mem_cons.mp (I.stkSub C z)).elim fL fS
  obtain ⟨oC, es, ep, gC, dC, rC⟩ := ns
  have bC : B.get? C = some oC := ub.keep C oC gC fC nC
  obtain ⟨Bn, b1, b2⟩ := restrict B fun b => decide (b ≠ C)
  have sub : ∀ b o, Bn.get? b = some o → b ≠ C ∧ B.get? b = some o := fun b o e => by
    by_cases hb : b = C
    · have z := b2 b (by simp [hb])
      rw [e] at z
      cases z
    · exact ⟨hb, by rw [← b1 b (by simp [hb])]; exact e⟩
  have into : ∀ b o, b ≠ C → B.get? b = some o → Bn.get? b = some o := fun b o hb e => by rw [b1 b (by simp [hb])]; exact e
  have outOf : ∀ b, B.get? b = none → Bn.get? b = none := fun b e => by
    cases q : Bn.get? b with
    | none => rfl
    | some o =>
      have z := (sub b o q).2
      rw [e] at z
      cases z
  obtain ⟨k1, k2, k3, oe, vs, T, oT, ts, t1, t2, t3, t4, t5, t6, t7, t8, t9⟩ := fl
  have fln : HandSPX.FlyingZ Bn (X.env :: X.outer) a (Zc cls d) s'.heap := by
    rw [← hs]
    refine ⟨fun b o e => k1 b o (sub b o e).2, outOf a k2, funFrames_none k3 fun b hb => ?_, oe, vs, T, oT, ts, t1, t2, t3, t4, outOf T t5, t6, t7, t8, t9⟩
    obtain ⟨n1, _⟩ := k3.mem hb
    exact outOf b n1
  have hfr : X.A.frames = some (X.env :: X.outer) := by rw [I.ok.frames, hs]
  rw [note_like hce]
  refine HandSPX.looks_onZ Zc.steady hfr hf fln fun h1 hh up => ?_
  have dict : ∀ ws, oC.data ≠ .fields ws := fun ws z => by
    rw [dC] at z
    cases z
  obtain ⟨slC, q1⟩ := up C oC (k1 C oC bC) dict
  refine ⟨m, ⟨_, es, ep, q1, dC, rC⟩, fun h2 sb => ?_⟩
  -- behind the forgetting of the block's own names
  obtain ⟨j1, j2, j3, oe', vs', T', oT', ts', u1, u2, u3, u4, u5, u6, u7, u8, u9⟩ := hh
  have aC : a ≠ C := fun z => by
    rw [z, q1] at u1
    cases u1
    rw [dC] at u3
    cases u3
  have tC : T' ≠ C := fun z => by
    rw [z, q1] at u7
    cases u7
    rw [dC] at u8
    cases u8
  have stay : ∀ b o, b ≠ C → h1.get? b = some o → h2.get? b = some o := fun b o hb e => (sb.2 b hb).trans e
  have nCl : C ∉ frs (X.env :: X.outer) := by rw [← hs]; exact nC
  have frF : h2.FunFrames Bn (X.env :: X.outer) := by
    have go : ∀ l : List Env, (∀ b ∈ frs l, b ≠ C) → h1.FunFrames Bn l → h2.FunFrames Bn l := by
      intro l
      induction l with
      | nil => exact fun _ _ => trivial
      | cons env r ih =>
        rintro hn ⟨g1, ⟨L, o, g2, g3, g4, g5⟩, g6⟩
        have hL : L ≠ C := hn L (by unfold frs; rw [List.filterMap_cons, g2]; exact List.mem_cons_self)
        exact ⟨g1, ⟨L, o, g2, g3, stay L o hL g4, g5⟩, ih (fun b hb => hn b (by unfold frs; rw [List.filterMap_cons, g2]; exact List.mem_cons_of_mem _ hb)) g6⟩
    exact go _ (fun b hb z => nCl (by rw [← z]; exact hb)) j3
  have held2 : HandSPX.HeldZ Bn (X.env :: X.outer) a (Zc cls d) X.env.locals h2 :=
    ⟨fun b o e => stay b o (sub b o e).1 (j1 b o e), j2, frF, oe', vs', T', oT', ts', stay a _ aC u1, u2, u3, u4, u5, u6, stay T' _ tC u7, u8, u9⟩
  have up2 : ∀ b o, b ≠ C → s'.heap.get? b = some o → (∀ ws, o.data ≠ .fields ws) → ∃ sl, h2.get? b = some { o with slots := sl } := fun b o hb e hd => by
    obtain ⟨sl, z⟩ := up b o e hd
    exact ⟨sl, stay b _ hb z⟩
  unfold PySem.passOn
  refine wpAny_bind (wpAny_field (stay a _ aC u1) u3 u4 ?_)
  rw [if_neg (by simp)]
  rw [hce, hf]
  refine wpAny_bind (HandSPX.setFlight_onZ held2 fun h3 held3 up3 => wpAny_throw (tk _ _ ?_))
  -- the ground without the block's names
  obtain ⟨G, g1, g2⟩ := restrict h3 fun b => (Bn.get? b).isSome || decide (b ∈ frs X.stack)
  have gB : ∀ b o, Bn.get? b = some o → G.get? b = some o := fun b o e => by
    rw [g1 b (by simp [e])]
    exact held3.1 b o e
  have og : ∀ b o, G.get? b = some o → h3.get? b = some o ∧ ((Bn.get? b).isSome = true ∨ b ∈ frs X.stack) := fun b o e => by
    cases q : ((Bn.get? b).isSome || decide (b ∈ frs X.stack)) with
    | false =>
      rw [g2 b q] at e
      cases e
    | true =>
      rw [g1 b q] at e
      exact ⟨e, by simpa [Bool.or_eq_true] using q⟩
  have hC' : H' C = none := ub.free C oC gC fC
  have hokn : HOk X.prog X.w H' Bn := fun b o e => (hok b o e).stay (fun c v hc q => into c v (fun z => by
    rcases hc with hc | hc
    · rw [← hc, z, hC'] at e
      cases e
    · rw [z, hC'] at hc
      cases hc) q) (fun _ q => q) fun _ _ q => q
  have slotG : ∀ b o, sB.heap.get? b = some o → b ∈ frs X.stack → ∃ sl, G.get? b = some { o with slots := sl } := fun b o e hb => by
    obtain ⟨_, o0, e0, hnf⟩ := I.stack.mem hb
    rw [e] at e0
    cases e0
    obtain ⟨sl, w1⟩ := ub.slot b o e hb
    obtain ⟨sl2, w2⟩ := up2 b _ (fun z => nC (by rw [← z]; exact hb)) w1 hnf
    obtain ⟨sl3, w3⟩ := up3 b _ w2 hnf
    exact ⟨sl3, by rw [g1 b (by simp [hb])]; exact w3⟩
  refine ⟨a, Bn, { sB with heap := G, gens := s'.gens, drawn := s'.drawn, toks := s'.toks }, pins, σ, H', cls, d, rfl, ?_, fun b o e hb => ?_, Heap.UpToSlots.of_keeps fun b o e => (og b o e).1, .inr (.inr (by rw [hs]; exact held3)), na, os, ag, hW _ _ _ _ hE⟩
  · refine I.call (ch := [C]) ⟨fun b o e n hb hx => gB b o (into b o (fun z => hx (by simp [z])) (ub.keep b o e n hb)), fun b o e n hb _ => slotG b o e hb, fun b o e n _ => ub.free b o e n, fun b o e hx => ?_, ub.tups, ub.frzs, ub.tbls⟩ (hokn.kept gB) ag (fun b hb => ?_)
    · by_cases hb : b ∈ frs X.stack
      · obtain ⟨sl, q⟩ := slotG b o e hb
        exact ⟨_, q⟩
      · obtain ⟨o', q⟩ := ub.there b o e hb
        exact ⟨o', gB b o' (into b o' (fun z => hx (by simp [z])) q)⟩
    · obtain rfl : b = C := by simpa using hb
      exact ⟨fX, fL, fc, fP⟩
  · obtain ⟨e', hh⟩ := og b o e
    rcases hh with hh | hh
    · obtain ⟨o', q⟩ := Option.isSome_iff_exists.mp hh
      have z := held3.1 b o' q
      rw [e'] at z
      cases z
      exact q
    · exact absurd hh hb
end
end G96

namespace G96
open PySem PySem.Spec PyProof.Rows L2
/-- what is asked behind a comprehension's block, its frame ce told -/
def blockEnd (M : Model) (A : Around) (E : Value → Shared → Prop) (Q : Value → Shared → Prop) (acc : Value) (ce : Env) (r : Result) (s' : Shared) : Prop :=
  match r with
  | .ok _ => ∃ m, s'.heap.Ns ce.locals m ∧ ∀ h', Heap.SameBut ce.locals s'.heap h' → Q acc { s' with heap := h' }
  | .error x => ∃ m, s'.heap.Ns ce.locals m ∧ ∀ h', Heap.SameBut ce.locals s'.heap h' → wpAny M A (PySem.passOn "comprehension.variables-let-go" x ce : Sem Value) (fun _ _ => False) E { s' with heap := h' }
theorem comp_run {M : Model} {A : Around} {E : Value → Shared → Prop} {env : Env} {s : Shared} {e : Expr} {scope : Scope} {pos : Pos} {newAcc first : Sem Value} {g : Comprehension} {gs : List Comprehension} {cl : List (Str × Addr)} {Q : Value → Shared → Prop}
    (k1 : clausesOf e = g :: gs) (k2 : ∀ x, foldedSetIterable g.iter env x = pure x) (k3 : closureFor scope env = pure cl) (k4 : scope.kind = .function) (k5 : ∀ x ∈ scope.names, x.2 = .local → scope.names.lookup x.1 = some .local)
    (h : wpAny M A first (fun x s1 => wpAny M A (pyIter x) (fun it s2 => wpAny M A newAcc (fun acc s3 => wpAny M A (newFunctionEnv scope env.globals cl [] env.qual none .none (some env)) (fun ce s4 =>
      codeAny M A (.compStart e 0 it acc { ce with scope := relabel scope env }) (blockEnd M A E Q acc { ce with scope := relabel scope env }) s4) E s3) E s2) E s1) E s) :
    wpAny M A (comprehension e scope env pos newAcc false first) Q E s := by
  unfold comprehension
  rw [k3, k1]
  refine wpAny_bind (wpAny_mono h (fun x s1 h1 => ?_) fun _ _ z => z)
  refine wpAny_bind (wpAny_standAt (wpAny_bind (wpAny_of_eq (k2 x) ?_)))
  refine wpAny_bind (wpAny_holding (wpAny_mono h1 (fun it s2 h2 => ?_) fun _ _ z => z))
  refine wpAny_standIf (wpAny_bind (wpAny_mono h2 (fun acc s3 h3 => ?_) fun _ _ z => z))
  refine wpAny_bind (wpAny_pure (wpAny_bind (wpAny_mono h3 (fun ce s4 h4 => ?_) fun _ _ z => z)))
  dsimp only
  have loc : ∀ x ∈ (scope.names.filter fun x => (x.2 == .local || x.2 == .cell) && x.1 != (".0" : Str)).reverse, x.2 = .local → Env.kindOf { ce with scope := relabel scope env } x.1 = some .local :=
    fun x hx hl => lookup_relabel_local (k5 x (List.mem_filter.mp (List.mem_reverse.mp hx)).1 hl)
  refine wpAny_holding (wpAny_bind (wpAny_attempt (wpAny_holding (wpAny_run (codeAny_mono h4 fun r s' hr => ?_)))))
  cases r with
  | ok f =>
    obtain ⟨m, hn, q⟩ := hr
    refine wpAny_bind (wpAny_holding (wpAny_comp_letGo (cenv := { ce with scope := relabel scope env }) k4 _ s' m loc hn fun h' m' _ sb => ?_))
    exact wpAny_pure (q h' sb)
  | error x =>
    obtain ⟨m, hn, q⟩ := hr
    refine wpAny_bind (wpAny_holding (wpAny_comp_letGo (cenv := { ce with scope := relabel scope env }) k4 _ s' m loc hn fun h' m' _ sb => ?_))
    exact wpAny_mono (q h' sb) (fun _ _ f => f.elim) fun _ _ z => z
end G96

namespace G96
open PySem PySem.Spec PyProof.Rows L2
/-- within a comprehension's block: a call's exception, as it comes -/
def OutB (X B : Cx) (E : XK) : Value → Shared → Prop := fun u s' => ∃ pins σ H s, Inv B pins σ H s ∧ L2.CX X.prog X.w X.stack H s E u s'
abbrev blkX (X : Cx) (E : XK) (s : Shared) (H : Hp) (scope : Scope) (ce : Env) (fp : List Addr) : Cx := (X.blk s H scope ce fp).wish (OutB X (X.blk s H scope ce fp) E)
theorem passB {X : Cx} {E : XK} {s : Shared} {H : Hp} {scope : Scope} {ce : Env} {fp : List Addr} : Passes (L2.CX (blkX X E s H scope ce fp).prog (blkX X E s H scope ce fp).w) (blkX X E s H scope ce fp) E :=
  fun pins σ H s _ _ I c => ⟨pins, σ, H, s, I.unwish, c⟩
section
variable {X : Cx} {W : WX} {E : XK}
/-- [e for x in xs] where a call within e may raise -/
theorem pe_lcX {elt tg iter : Expr} {ifs : List Expr} {scope : Scope} {own : List (Str × Nat)} {pos : Pos} {wi : TI} {g : TG} {tt : TT} {te : TE} (hs : X.stack = X.env :: X.outer) (hf : X.env.frame = some X.env.locals) (tk : Takes X W)
    (hW : ∀ cls d σ H, E cls d H → W cls d σ H) (hc : X.calm = true) (hN : X.N.Nodup) (hi : PI X tg iter wi) (ok : BlkOk X.N X.env.scope scope own)
    (hg : ∀ (s : Shared) (H : Hp) (C : Addr) (cl : List (Str × Addr)) (fp : List Addr), PG (X.blk s H scope (compEnvC scope cl C X.env) fp) tg g)
    (ht : ∀ (s : Shared) (H : Hp) (C : Addr) (cl : List (Str × Addr)) (fp : List Addr), PTs (X.blk s H scope (compEnvC scope cl C X.env) fp) ifs tt)
    (he : ∀ (s : Shared) (H : Hp) (C : Addr) (cl : List (Str × Addr)) (fp : List Addr), PE (blkX X E s H scope (compEnvC scope cl C X.env) fp) elt te)
    (hsf : ∀ x, foldedSetIterable iter X.env x = pure x := by intro _; rfl) : PE X (.ListComp elt [⟨tg, iter, ifs, 0⟩] scope pos) (tLc wi g tt te (own.map (·.2))) := by
  refine ⟨fun pins s σ H Q I h => ?_⟩
  rw [eval_ListComp]
  have freeOf : ∀ y ∈ scope.names, y.2 = .free → ∃ c, X.env.cells.lookup y.1 = some c := fun y hy e => (ok.free y hy e).elim (fun k => I.ok.has _ (.inl k)) fun k => I.ok.has _ (.inr k)
  refine comp_run rfl hsf (closure_ok freeOf) ok.kind (fun y hy e => by rw [ok.uniq y hy, e]) (thn (hi.run pins s σ H _ I h) fun xv s1 hx => thn hx fun itv s2 h2 => ?_)
  obtain ⟨it, fp, tn, J, H2, rfl, I2, T, st2, f2, q⟩ := h2
  refine wpAny_newObj_type (newEnv_comp ?_) (by show 0 ≤ sizeLine; decide)
  generalize hD : s2.heap.objs.size = D
  have freshD : H2 D = none := I2.hok.fresh (Nat.le_of_eq hD)
  obtain ⟨R, ⟨m0, w0⟩, turn⟩ := q D freshD
  generalize e3 : ({ s2 with heap := s2.heap.push { cls := .type "list", data := .seq ([] : List Value).toArray } } : Shared) = s3
  have h3 : s3.heap = s2.heap.push { cls := .type "list", data := .seq ([] : List Value).toArray } := by rw [← e3]
  have I3 : Inv X pins σ (upd H2 D (.lst [])) s3 := by
    rw [← e3]
    exact I2.laid (t' := s2.toks) (fun b o e => Heap.get?_push_of_some _ e) (Nat.le_of_eq hD) ⟨Nat.zero_le _, [], 0, .nil, by rw [← hD]; exact Heap.get?_push_size _ rfl⟩
  have below : ∀ b ∈ fp, b < s2.heap.objs.size := fun b hb => let ⟨_, e, _⟩ := T.obj _ _ st2 b hb; Heap.lt_size e
  have f3 : ∀ b ∈ fp, FpOk X pins (upd H2 D (.lst [])) b ∧ b < s3.heap.objs.size := fun b hb => by
    have lt := below b hb
    refine ⟨⟨?_, (f2 b hb).2⟩, by rw [h3, Heap.size_push]; exact Nat.lt_succ_of_lt lt⟩
    rw [upd_ne (by rw [← hD]; exact Nat.ne_of_lt lt)]
    exact (f2 b hb).1
  have st3 : tn 0 s3.heap := T.keep _ _ _ st2 fun b _ o e => by rw [h3]; exact Heap.get?_push_of_some _ e
  have I4 := block_start I3 ok hN f3
  have pg := hg s3 (upd H2 D (.lst [])) s3.heap.objs.size (cellsFrom (s3.heap.objs.size + 1) scope.names (cloFrom X.env.cells scope.names [])) fp
  have pt := ht s3 (upd H2 D (.lst [])) s3.heap.objs.size (cellsFrom (s3.heap.objs.size + 1) scope.names (cloFrom X.env.cells scope.names [])) fp
  have px := he s3 (upd H2 D (.lst [])) s3.heap.objs.size (cellsFrom (s3.heap.objs.size + 1) scope.names (cloFrom X.env.cells scope.names [])) fp
  show codeAny _ _ (.compStart (.ListComp elt [⟨tg, iter, ifs, 0⟩] scope pos) 0 (.ref it) (.ref D) (compEnvC scope (cellsFrom (s3.heap.objs.size + 1) scope.names (cloFrom X.env.cells scope.names [])) s3.heap.objs.size X.env))
    (blockEnd (model X.prog X.w) X.A X.xe (EP X pins σ Q) (.ref D) (compEnvC scope (cellsFrom (s3.heap.objs.size + 1) scope.names (cloFrom X.env.cells scope.names [])) s3.heap.objs.size X.env)) { s3 with heap := pushCells (s3.heap.push { cls := .type "dict", data := .dict #[] }) scope.names }
  have nf : ∀ b ∈ fp, (upd H2 D (.lst [])) b = none := fun b hb => (f3 b hb).1.1
  generalize ece : compEnvC scope (cellsFrom (s3.heap.objs.size + 1) scope.names (cloFrom X.env.cells scope.names [])) s3.heap.objs.size X.env = ce at I4 pg pt px ⊢
  have cL : ce.locals = s3.heap.objs.size := by rw [← ece]; rfl
  have cF : ce.frame = X.env.frame := by rw [← ece]; rfl
  generalize eH3 : upd H2 D (.lst []) = H3 at I3 I4 pg pt px w0 nf f3
  generalize e4 : ({ s3 with heap := pushCells (s3.heap.push { cls := .type "dict", data := .dict #[] }) scope.names } : Shared) = s4 at I4 ⊢
  have st4 : tn 0 s4.heap := T.keep _ _ _ st3 fun b _ o e => by rw [← e4]; exact pushCells_keeps _ _ _ _ (Heap.get?_push_of_some _ e)
  have stat : ∀ {σ' : L2.St} {H' : Hp} {s' : Shared}, Inv (X.blk s3 H3 scope ce fp) [] σ' H' s' → (∀ b ∈ fp, H' b = none) → ∀ b ∈ fp, FpOk (X.blk s3 H3 scope ce fp) [] H' b := fun {σ' H' s'} J hn b hb =>
    ⟨hn b hb, (J.ok.exf b hb).1, J.ok.exfs b hb, .inl hb, fun x c e => (J.ok.exf b hb).2 x c e, fun p hp => absurd (show p ∈ ([] : List (Addr × Obj)) ++ [] from hp) (by simp)⟩
  -- the def's own state behind a state of the block
  have home : ∀ {ps : List (Addr × Obj)} {σ' : L2.St} {H' : Hp} {s' : Shared}, Inv (X.blk s3 H3 scope ce fp) ps σ' H' s' → Inv X pins σ H' s' ∧ FpOk X pins H' ce.locals ∧ ∃ m, s'.heap.Ns ce.locals m := fun {ps σ' H' s'} J => by
    refine ⟨I3.call' (ch := fp) J.os J.base J.hok J.bare fun b hb => ⟨(f3 b hb).1.2.2.2.1, (f3 b hb).1.2.1, (f3 b hb).1.2.2.2.2.1, (f3 b hb).1.2.2.2.2.2⟩, ?_, let ⟨m, hn, _⟩ := J.loc; ⟨m, hn⟩⟩
    have z : H' ce.locals = none := J.free
    rw [cL] at z ⊢
    exact I3.fpOk (Nat.le_refl _) z
  have loop : codeAny (model X.prog X.w) X.A (.compLoop (.ListComp elt [⟨tg, iter, ifs, 0⟩] scope pos) 0 (.ref it) (.ref D) ce) (blockEnd (model X.prog X.w) X.A X.xe (EP X pins σ Q) (.ref D) ce) s4 := by
    refine compLoop_any (fun n s' => ∃ i H', Inv (X.blk s3 H3 scope ce fp) [] (wipe σ (own.map (·.2))) H' s' ∧ tn i s'.heap ∧ (∀ b ∈ fp, H' b = none) ∧ R i n H') ?_ m0 ⟨0, H3, I4, st4, nf, w0⟩
    rintro n s5 ⟨i, H5, I5, st5, n5, w5⟩
    rcases turn i n H5 w5 with ⟨stop, qq⟩ | ⟨go, Nx, hNx, step⟩
    · refine thnF (T.done (X.blk s3 H3 scope ce fp) rfl rfl rfl hc i [] s5 _ H5 (fun _ _ => False) I5 (stat I5 n5) st5 stop) fun r s6 ⟨hr, I6⟩ => ?_
      subst hr
      obtain ⟨I7, fpC, m, hn⟩ := home I6
      obtain ⟨c0, c1, c2, c3, c4, c5⟩ := fpC
      exact ⟨m, hn, fun h'' sb => ⟨.ref D, H5, I7.turned (t' := s6.toks) (fun b o hb e => (sb.2 b hb).trans e) c0 c1 c3 c4 c5, rfl, qq⟩⟩
    · refine thnF (T.item (X.blk s3 H3 scope ce fp) rfl rfl rfl hc i [] s5 _ H5 (fun _ _ => False) I5 (stat I5 n5) st5 go) fun r s6 ⟨u, hr, h6⟩ => ?_
      subst hr
      refine thnF h6 fun _ s7 ⟨x, H7, I7, r7, y7, st7, n7⟩ => ?_
      refine thnF (pg.run _ s7 _ H7 x u _ (I7.pinned (stat I7 n7) (T.obj _ _ st7)) r7 (step x H7 y7)) fun _ s8 ⟨σ8, H8, I8, hw8, q8⟩ => ?_
      refine thnF (pt.run _ s8 σ8 H8 _ I8 q8) fun b s9 ⟨H9, I9, q9⟩ => ?_
      have fin : ∀ {s' : Shared} {H' : Hp}, Inv (X.blk s3 H3 scope ce fp) ([] ++ pinsAt fp s7.heap) σ8 H' s' → Nx H' → ∃ m, m < n ∧ ∃ i H', Inv (X.blk s3 H3 scope ce fp) [] (wipe σ (own.map (·.2))) H' s' ∧ tn i s'.heap ∧ (∀ b ∈ fp, H' b = none) ∧ R i m H' := fun {s' H'} J nx => by
        obtain ⟨m', lt, w'⟩ := hNx H' nx
        have pin : ∀ b ∈ fp, ∀ o, s7.heap.get? b = some o → s'.heap.get? b = some o ∧ H' b = none := fun b hb o e =>
          have z := J.pin (b, o) (List.mem_append_right _ (List.mem_append_right _ (mem_pinsAt hb e)))
          ⟨z.1, z.2.1⟩
        have len : (wipe σ (own.map (·.2))).length = σ8.length := by rw [← hw8, wipe_length]
        refine ⟨m', lt, i + 1, H', (J.unpinned (pins := [])).weak len (fun j v e => by rw [← hw8] at e; exact (wipe_some e).1), T.keep _ _ _ st7 fun b hb o e => (pin b hb o e).1, fun b hb => ?_, w'⟩
        obtain ⟨o, e, _⟩ := T.obj _ _ st7 b hb
        exact (pin b hb o e).2
      cases b with
      | false =>
        simp only [Bool.false_eq_true, if_false] at q9 ⊢
        exact fin I9 q9
      | true =>
        simp only [if_true] at q9 ⊢
        refine wpAny_mono (px.run _ s9 σ8 H9 _ (I9.wish _) q9) (fun z s10 ⟨yv, H10, I10, r10, acc, d10, z10, nx⟩ => ?_) fun u s' hx => ?_
        · exact app_ok (X := X.blk s3 H3 scope ce fp) I10.unwish d10 z10 r10 fun s11 I11 => fin I11 nx
        · obtain ⟨ps, σB, HB, sB, IB, c⟩ := hx
          obtain ⟨IX, fpC, m, hn⟩ := home IB
          exact comp_err hs hf tk hW IX fpC hn c cF _
  exact codeAny_compStart_list loop (T.self X.A 0 _ _ _ st4 loop)
end
end G96

namespace G96
open PySem PySem.Spec PyProof.Rows L2
mutual
/-- data of tuples alone -/
inductive TD (H : Hp) : V → PyData → Prop
  | non : TD H .non .none
  | bl (b : Bool) : TD H (.bl b) (.bool b)
  | int (i : Int) : TD H (.int i) (.int i)
  | str (x : Str) : TD H (.str x) (.str x)
  | tup {a : Addr} {xs : List V} {ds : List PyData} : H a = some (.tup xs) → TDs H xs ds → TD H (.ref a) (.tuple ds)
inductive TDs (H : Hp) : List V → List PyData → Prop
  | nil : TDs H [] []
  | cons {v : V} {vs : List V} {d : PyData} {ds : List PyData} : TD H v d → TDs H vs ds → TDs H (v :: vs) (d :: ds)
end
def Tups (H H' : Hp) : Prop := ∀ a xs, H a = some (.tup xs) → H' a = some (.tup xs)
theorem tupsOf {H H' : Hp} (s : Same H H') : Tups H H' := fun a xs e => s a _ e
mutual
theorem TD.mono {H H' : Hp} (t : Tups H H') : ∀ {v : V} {d : PyData}, TD H v d → TD H' v d
  | _, _, .non => .non
  | _, _, .bl b => .bl b
  | _, _, .int i => .int i
  | _, _, .str x => .str x
  | _, _, .tup e r => .tup (t _ _ e) (TDs.mono t r)
theorem TDs.mono {H H' : Hp} (t : Tups H H') : ∀ {vs : List V} {ds : List PyData}, TDs H vs ds → TDs H' vs ds
  | _, _, .nil => .nil
  | _, _, .cons h r => .cons (TD.mono t h) (TDs.mono t r)
end
mutual
theorem TD.dp {K : PySem.W.Frag} {H : Hp} : ∀ {v : V} {d : PyData}, TD H v d → Dp K H v d
  | _, _, .non => .non
  | _, _, .bl b => .bl b
  | _, _, .int i => .int i
  | _, _, .str x => .str x
  | _, _, .tup e r => .tup (.of e) (TDs.dp r)
theorem TDs.dp {K : PySem.W.Frag} {H : Hp} : ∀ {vs : List V} {ds : List PyData}, TDs H vs ds → DpAll K H vs ds
  | _, _, .nil => .nil
  | _, _, .cons h r => .cons (TD.dp h) (TDs.dp r)
end
theorem TDs.length {H : Hp} : ∀ {vs : List V} {ds : List PyData}, TDs H vs ds → vs.length = ds.length
  | _, _, .nil => rfl
  | _, _, .cons _ r => by rw [List.length_cons, List.length_cons, TDs.length r]
theorem TDs.append {H : Hp} : ∀ {vs : List V} {ds : List PyData} {us : List V} {es : List PyData}, TDs H vs ds → TDs H us es → TDs H (vs ++ us) (ds ++ es)
  | _, _, _, _, .nil, q => q
  | _, _, _, _, .cons h r, q => .cons h (TDs.append r q)
theorem TDs.get {H : Hp} : ∀ {vs : List V} {ds : List PyData} {i : Nat} {v : V}, TDs H vs ds → vs[i]? = some v → ∃ d, ds[i]? = some d ∧ TD H v d
  | _, _, 0, _, .cons h _, e => by
    simp only [List.getElem?_cons_zero, Option.some.injEq] at e
    subst e
    exact ⟨_, rfl, h⟩
  | _, _, i + 1, _, .cons _ r, e => by
    simp only [List.getElem?_cons_succ] at e ⊢
    exact TDs.get r e
/-- a value: nothing, a number, a word -/
inductive Sc where
  | non | int (i : Int) | str (x : Str)
def Sc.v : Sc → V
  | .non => .non
  | .int i => .int i
  | .str x => .str x
def Sc.d : Sc → PyData
  | .non => .none
  | .int i => .int i
  | .str x => .str x
theorem Sc.td (H : Hp) : ∀ c : Sc, TD H c.v c.d
  | .non => .non
  | .int i => .int i
  | .str x => .str x
theorem Sc.tds (H : Hp) : ∀ cs : List Sc, TDs H (cs.map Sc.v) (cs.map Sc.d)
  | [] => .nil
  | c :: cs => .cons (c.td H) (Sc.tds H cs)
theorem Sc.of_td {H : Hp} {v : V} : ∀ {c : Sc}, TD H v c.d → v = c.v
  | .non, h => by cases h; rfl
  | .int i, h => by cases h; rfl
  | .str x, h => by cases h; rfl
theorem Sc.of_tds {H : Hp} : ∀ {cs : List Sc} {vs : List V}, TDs H vs (cs.map Sc.d) → vs = cs.map Sc.v
  | [], vs, h => by cases h; rfl
  | c :: cs, vs, h => by
    cases h with
    | cons h r => rw [Sc.of_td h, Sc.of_tds r]; rfl
inductive Deed where
  | put (t : Str) (vs : List Sc) | take (t : Str) (n : Int)
def Deed.d : Deed → PyData
  | .put t vs => .tuple [.str "put", .str t, .tuple (vs.map Sc.d)]
  | .take t n => .tuple [.str "take", .str t, .int n]
theorem Deed.of_put {H : Hp} {v : V} {t : Str} {vs : List Sc} (h : TD H v (Deed.put t vs).d) : ∃ a b, v = .ref a ∧ H a = some (.tup [.str "put", .str t, .ref b]) ∧ H b = some (.tup (vs.map Sc.v)) := by
  cases h with
  | tup e r => cases r with
    | cons h1 r => cases r with
      | cons h2 r => cases r with
        | cons h3 r =>
          cases r
          cases h1
          cases h2
          cases h3 with
          | tup e3 r3 =>
            have q := Sc.of_tds r3
            subst q
            exact ⟨_, _, rfl, e, e3⟩
theorem Deed.of_take {H : Hp} {v : V} {t : Str} {n : Int} (h : TD H v (Deed.take t n).d) : ∃ a, v = .ref a ∧ H a = some (.tup [.str "take", .str t, .int n]) := by
  cases h with
  | tup e r => cases r with
    | cons h1 r => cases r with
      | cons h2 r => cases r with
        | cons h3 r =>
          cases r
          cases h1
          cases h2
          cases h3
          exact ⟨_, rfl, e⟩
theorem Deed.mk_take {H : Hp} {a : Addr} {t : Str} {n : Int} (h : H a = some (.tup [.str "take", .str t, .int n])) : TD H (.ref a) (Deed.take t n).d := .tup h (.cons (.str _) (.cons (.str _) (.cons (.int _) .nil)))
theorem Deed.mk_put {H : Hp} {a b : Addr} {t : Str} {vs : List Sc} (h : H a = some (.tup [.str "put", .str t, .ref b])) (h2 : H b = some (.tup (vs.map Sc.v))) : TD H (.ref a) (Deed.put t vs).d :=
  .tup h (.cons (.str _) (.cons (.str _) (.cons (.tup h2 (Sc.tds H vs)) .nil)))
/-- all, or none -/
def mapO {α β : Type} (f : α → Option β) : List α → Option (List β)
  | [] => some []
  | x :: xs => match f x, mapO f xs with
    | some y, some ys => some (y :: ys)
    | _, _ => none
theorem mapO_none {α β : Type} {f : α → Option β} : ∀ {l : List α} {i : Nat} {x : α}, l[i]? = some x → f x = none → mapO f l = none
  | [], i, x, e, _ => by simp at e
  | y :: l, 0, x, e, h => by
    simp only [List.getElem?_cons_zero, Option.some.injEq] at e
    subst e
    simp [mapO, h]
  | y :: l, i + 1, x, e, h => by
    simp only [List.getElem?_cons_succ] at e
    unfold mapO
    rw [mapO_none e h]
    cases f y <;> rfl
theorem mapO_some {α β : Type} {f : α → Option β} : ∀ {l : List α} {ys : List β}, ys.length = l.length → (∀ (i : Nat) (y : β), ys[i]? = some y → ∃ x, l[i]? = some x ∧ f x = some y) → mapO f l = some ys
  | [], ys, hl, _ => by
    rw [List.length_eq_zero_iff.mp hl]
    rfl
  | x :: l, [], hl, _ => by cases hl
  | x :: l, y :: ys, hl, h => by
    obtain ⟨x', e, q⟩ := h 0 y rfl
    simp only [List.getElem?_cons_zero, Option.some.injEq] at e
    subst e
    have r := mapO_some (f := f) (l := l) (ys := ys) (by simpa using hl) fun i z hz => by
      obtain ⟨x', e, q⟩ := h (i + 1) z (by simpa using hz)
      exact ⟨x', by simpa using e, q⟩
    unfold mapO
    rw [q, r]
theorem mapO_length {α β : Type} {f : α → Option β} : ∀ {l : List α} {ys : List β}, mapO f l = some ys → ys.length = l.length
  | [], ys, h => by cases h; rfl
  | x :: l, ys, h => by
    unfold mapO at h
    split at h
    · rename_i y zs _ e2
      cases h
      rw [List.length_cons, List.length_cons, mapO_length e2]
    · cases h
end G96

namespace G96
open PySem PySem.Spec PyProof.Rows L2
theorem cx_K {CX : CXT} {P : Program} {w : World} {K : PySem.W.Frag} {mg : Str → Option Value} {base : Heap} {N : List Str} {qual : Str} {scope : Scope} {f : Addr} {cd : Value} {A : Around} {outer : List Env} {s : Shared} {H : Hp} {E : XK} :
    (cxOf CX P w K mg base N qual scope f cd A outer s H E).K = K := rfl
section
variable {α : Type} {J : It} {G : Hp → Prop} {g : TG} {te : TE} {vs : List Nat} {σ : L2.St} {H : Hp} {D : Addr} {Qd : Hp → Prop} {f : α → V} {l : List α}
abbrev Turns (J : It) (g : TG) (tt : TT) (te : TE) (vs : List Nat) (σ : L2.St) (H : Hp) (D : Addr) (Qd : Hp → Prop) : Prop :=
  ∃ W : Nat → Nat → Hp → Prop, (∃ m, W 0 m (upd H D (.lst []))) ∧ ∀ i m H, W i m H →
    (J.stop i H ∧ Qd H) ∨ (J.go i H ∧ ∃ Nx : Hp → Prop, (∀ H', Nx H' → ∃ m', m' < m ∧ W (i + 1) m' H') ∧ ∀ x H', J.yld i H x H' → g x (wipe σ vs) H' fun σ2 H2 => wipe σ2 vs = wipe σ vs ∧ tt σ2 H2 fun b H3 =>
      if b = true then te σ2 H3 fun y H4 => ∃ acc, H4 D = some (.lst acc) ∧ acc.length < sizeLine ∧ Nx (upd H4 D (.lst (acc ++ [y]))) else Nx H3)
theorem at_map {i : Nat} {x : V} (h : (l.map f)[i]? = some x) : ∃ a, l[i]? = some a ∧ x = f a := by
  rw [List.getElem?_map] at h
  cases e : l[i]? with
  | none =>
    rw [e] at h
    cases h
  | some a =>
    rw [e] at h
    exact ⟨a, rfl, (Option.some.inj h).symm⟩
/-- every item is turned by F -/
theorem lc_mapA (F : α → V) (w : Walk J (l.map f).length G (YAt (l.map f))) (hD : H D = none) (hn : l.length ≤ sizeLine) (hG : ∀ H', Same H H' → G H')
    (hs : ∀ x ∈ l, ∀ (H1 : Hp) (Kt : V → Hp → Prop), Same H H1 → (∀ H4, Same H1 H4 → Kt (F x) H4) → g (f x) (wipe σ vs) H1 fun σ2 H2 => wipe σ2 vs = wipe σ vs ∧ te σ2 H2 Kt)
    (hd : ∀ H', Same H H' → H' D = some (.lst (l.map F)) → Qd H') : Turns J g tYes te vs σ H D Qd := by
  refine lc_grow w hD (by rw [List.length_map]; exact hn) (fun i acc _ => acc = (l.take i).map F) rfl (fun _ _ _ _ e _ _ => e) hG (fun i x H1 H1' acc Kt Kf hi sm _ e hy ht _ => ?_) (fun acc H' sm e p => hd H' sm ?_)
  · obtain ⟨rfl, hx⟩ := hy
    obtain ⟨a, ha, rfl⟩ := at_map hx
    refine hs a (List.mem_of_getElem? ha) _ Kt sm fun H4 s4 => ht _ H4 s4 ?_
    rw [e, List.take_add_one, ha, List.map_append]
    rfl
  · rw [e, p, List.length_map, List.take_length]
/-- every item gives data of tuples -/
theorem lc_mapD (dd : α → PyData) (w : Walk J (l.map f).length G (YAt (l.map f))) (hD : H D = none) (hn : l.length ≤ sizeLine) (hG : ∀ H', Same H H' → G H')
    (hs : ∀ x ∈ l, ∀ (H1 : Hp) (Kt : V → Hp → Prop), Same H H1 → (∀ v H4, Same H1 H4 → TD H4 v (dd x) → Kt v H4) → g (f x) (wipe σ vs) H1 fun σ2 H2 => wipe σ2 vs = wipe σ vs ∧ te σ2 H2 Kt)
    (hd : ∀ acc H', Same H H' → H' D = some (.lst acc) → TDs H' acc (l.map dd) → Qd H') : Turns J g tYes te vs σ H D Qd := by
  refine lc_grow w hD (by rw [List.length_map]; exact hn) (fun i acc H' => TDs H' acc ((l.take i).map dd)) .nil (fun _ _ H1 H2 t n s => t.mono fun a xs e => s a _ (fun z => by rw [z] at e; exact n _ e) e) hG
    (fun i x H1 H1' acc Kt Kf hi sm _ e hy ht _ => ?_) (fun acc H' sm e p => hd acc H' sm e ?_)
  · obtain ⟨rfl, hx⟩ := hy
    obtain ⟨a, ha, rfl⟩ := at_map hx
    refine hs a (List.mem_of_getElem? ha) _ Kt sm fun v H4 s4 t4 => ht v H4 s4 ?_
    rw [List.take_add_one, ha, List.map_append]
    exact (e.mono (tupsOf s4)).append (.cons t4 .nil)
  · rw [List.length_map, List.take_length] at p
    exact p
/-- every item gives a value, or an item raises -/
theorem lc_mapS (F : α → Option Sc) (w : Walk J (l.map f).length G (YAt (l.map f))) (hD : H D = none) (hn : l.length ≤ sizeLine) (hG : ∀ H', Same H H' → G H')
    (hs : ∀ (i : Nat) (x : α), l[i]? = some x → ∀ (H1 : Hp) (Kt : V → Hp → Prop), Same H H1 → (∀ c H4, Same H1 H4 → F x = some c → Kt c.v H4) → g (f x) (wipe σ vs) H1 fun σ2 H2 => wipe σ2 vs = wipe σ vs ∧ te σ2 H2 Kt)
    (hd : ∀ cs H', Same H H' → H' D = some (.lst (cs.map Sc.v)) → mapO F l = some cs → Qd H') : Turns J g tYes te vs σ H D Qd := by
  refine lc_grow w hD (by rw [List.length_map]; exact hn) (fun i acc _ => ∃ cs : List Sc, acc = cs.map Sc.v ∧ cs.length = i ∧ ∀ (j : Nat) (c : Sc), cs[j]? = some c → ∃ x, l[j]? = some x ∧ F x = some c) ⟨[], rfl, rfl, fun j c z => by simp at z⟩ (fun _ _ _ _ e _ _ => e) hG
    (fun i x H1 H1' acc Kt Kf hi sm _ e hy ht _ => ?_) (fun acc H' sm e p => ?_)
  · obtain ⟨rfl, hx⟩ := hy
    obtain ⟨a, ha, rfl⟩ := at_map hx
    obtain ⟨cs, e1, e2, e3⟩ := e
    refine hs i a ha _ Kt sm fun c H4 s4 hc => ht _ H4 s4 ⟨cs ++ [c], by rw [e1, List.map_append]; rfl, by rw [List.length_append, e2]; rfl, fun j c' hj => ?_⟩
    by_cases hji : j < cs.length
    · rw [List.getElem?_append_left hji] at hj
      exact e3 j c' hj
    · rw [List.getElem?_append_right (by omega)] at hj
      have q : j - cs.length = 0 := by
        cases q : j - cs.length with
        | zero => rfl
        | succ n =>
          rw [q] at hj
          simp at hj
      rw [q] at hj
      simp only [List.getElem?_cons_zero, Option.some.injEq] at hj
      subst hj
      exact ⟨a, by rw [show j = i by omega]; exact ha, hc⟩
  · obtain ⟨cs, e1, e2, e3⟩ := p
    rw [List.length_map] at e2
    exact hd cs H' sm (by rw [e, e1]) (mapO_some e2 e3)
/-- every item gives data of tuples, or an item raises -/
theorem lc_mapT {β : Type} (F : α → Option β) (dd : β → PyData) (w : Walk J (l.map f).length G (YAt (l.map f))) (hD : H D = none) (hn : l.length ≤ sizeLine) (hG : ∀ H', Same H H' → G H')
    (hs : ∀ (i : Nat) (x : α), l[i]? = some x → ∀ (H1 : Hp) (Kt : V → Hp → Prop), Same H H1 → (∀ b v H4, Same H1 H4 → F x = some b → TD H4 v (dd b) → Kt v H4) → g (f x) (wipe σ vs) H1 fun σ2 H2 => wipe σ2 vs = wipe σ vs ∧ te σ2 H2 Kt)
    (hd : ∀ acc bs H', Same H H' → H' D = some (.lst acc) → TDs H' acc (bs.map dd) → mapO F l = some bs → Qd H') : Turns J g tYes te vs σ H D Qd := by
  refine lc_grow w hD (by rw [List.length_map]; exact hn) (fun i acc H' => ∃ cs : List β, TDs H' acc (cs.map dd) ∧ cs.length = i ∧ ∀ (j : Nat) (c : β), cs[j]? = some c → ∃ x, l[j]? = some x ∧ F x = some c) ⟨[], .nil, rfl, fun j c z => by simp at z⟩
    (fun _ _ H1 H2 ⟨cs, t, e⟩ n s => ⟨cs, t.mono fun a xs e => s a _ (fun z => by rw [z] at e; exact n _ e) e, e⟩) hG
    (fun i x H1 H1' acc Kt Kf hi sm _ e hy ht _ => ?_) (fun acc H' sm e p => ?_)
  · obtain ⟨rfl, hx⟩ := hy
    obtain ⟨a, ha, rfl⟩ := at_map hx
    obtain ⟨cs, e1, e2, e3⟩ := e
    refine hs i a ha _ Kt sm fun c v H4 s4 hc tv => ht _ H4 s4 ⟨cs ++ [c], by rw [List.map_append]; exact (e1.mono (tupsOf s4)).append (.cons tv .nil), by rw [List.length_append, e2]; rfl, fun j c' hj => ?_⟩
    by_cases hji : j < cs.length
    · rw [List.getElem?_append_left hji] at hj
      exact e3 j c' hj
    · rw [List.getElem?_append_right (by omega)] at hj
      have q : j - cs.length = 0 := by
        cases q : j - cs.length with
        | zero => rfl
        | succ n =>
          rw [q] at hj
          simp at hj
      rw [q] at hj
      simp only [List.getElem?_cons_zero, Option.some.injEq] at hj
      subst hj
      exact ⟨a, by rw [show j = i by omega]; exact ha, hc⟩
  · obtain ⟨cs, e1, e2, e3⟩ := p
    rw [List.length_map] at e2
    exact hd acc cs H' sm e e1 (mapO_some e2 e3)
end
end G96

namespace G96
open PySem PySem.Spec PyProof.Rows L2
/-! a deck: a dict at p whose "cells" is the list at l -/
def deckKV (l : Addr) (t n : Int) : List (Key × V) := [(.inr "cells", .ref l), (.inr "total", .int t), (.inr "draws", .int n)]
def DeckB (H : Hp) (p l : Addr) (N : Nat) : Prop := ∃ (cells : List Int) (t : Int) (n : Nat), H p = some (.dK (deckKV l t (n : Nat))) ∧ H l = some (.lst (cells.map V.int)) ∧ cells.length ≤ 100 ∧ n ≤ N
theorem DeckB.mono {H : Hp} {p l : Addr} {N M : Nat} (d : DeckB H p l N) (h : N ≤ M) : DeckB H p l M := by
  obtain ⟨c, t, n, h1, h2, h3, h4⟩ := d
  exact ⟨c, t, n, h1, h2, h3, Nat.le_trans h4 h⟩
theorem DeckB.same {H H' : Hp} {p l : Addr} {N : Nat} (d : DeckB H p l N) (s : Same H H') : DeckB H' p l N := by
  obtain ⟨c, t, n, h1, h2, h3, h4⟩ := d
  exact ⟨c, t, n, s _ _ h1, s _ _ h2, h3, h4⟩
/-- all but the deck stays -/
def Same2 (p l : Addr) (H H' : Hp) : Prop := ∀ a o, a ≠ p → a ≠ l → H a = some o → H' a = some o
theorem Same2.of {p l : Addr} {H H' : Hp} (s : Same H H') : Same2 p l H H' := fun a o _ _ e => s a o e
theorem Same2.trans {p l : Addr} {H H1 H2 : Hp} (a : Same2 p l H H1) (b : Same2 p l H1 H2) : Same2 p l H H2 := fun c o h1 h2 e => b c o h1 h2 (a c o h1 h2 e)
/-- a step in which the deck alone may change -/
structure Stp (p l : Addr) (N : Nat) (H H' : Hp) : Prop where
  keep : Same2 p l H H'
  deck : DeckB H' p l N
theorem Stp.refl {p l : Addr} {N : Nat} {H : Hp} (d : DeckB H p l N) : Stp p l N H H := ⟨fun _ _ _ _ e => e, d⟩
theorem Stp.trans {p l : Addr} {N M : Nat} {H H1 H2 : Hp} (a : Stp p l N H H1) (b : Stp p l M H1 H2) : Stp p l M H H2 := ⟨a.keep.trans b.keep, b.deck⟩
theorem Stp.andSame {p l : Addr} {N : Nat} {H H1 H2 : Hp} (a : Stp p l N H H1) (s : Same H1 H2) : Stp p l N H H2 := ⟨a.keep.trans (.of s), a.deck.same s⟩
theorem Stp.ofSame {p l : Addr} {N : Nat} {H H1 : Hp} (d : DeckB H p l N) (s : Same H H1) : Stp p l N H H1 := ⟨.of s, d.same s⟩
theorem Stp.new {p l q : Addr} {N : Nat} {H H1 : Hp} {o : HO} (a : Stp p l N H H1) (n : H1 q = none) : Stp p l N H (upd H1 q o) := a.andSame (same_new n)
theorem Stp.mono {p l : Addr} {N M : Nat} {H H1 : Hp} (a : Stp p l N H H1) (h : N ≤ M) : Stp p l M H H1 := ⟨a.keep, a.deck.mono h⟩
theorem DeckB.ne_tup {H : Hp} {p l a : Addr} {N : Nat} {xs : List V} (d : DeckB H p l N) (e : H a = some (.tup xs)) : a ≠ p ∧ a ≠ l := by
  obtain ⟨c, t, n, h1, h2, h3, h4⟩ := d
  refine ⟨fun z => ?_, fun z => ?_⟩
  · rw [z, h1] at e
    cases e
  · rw [z, h2] at e
    cases e
theorem DeckB.ne_new {H : Hp} {p l a : Addr} {N : Nat} (d : DeckB H p l N) (e : H a = none) : a ≠ p ∧ a ≠ l := by
  obtain ⟨c, t, n, h1, h2, h3, h4⟩ := d
  refine ⟨fun z => ?_, fun z => ?_⟩
  · rw [z, h1] at e
    cases e
  · rw [z, h2] at e
    cases e
theorem tups2 {H H' : Hp} {p l : Addr} {N : Nat} (d : DeckB H p l N) (s : Same2 p l H H') : Tups H H' := fun a xs e => s a _ (d.ne_tup e).1 (d.ne_tup e).2 e
theorem cut_map {α : Type} (f : α → V) (l : List α) (lo hi : Option Int) : cutV (l.map f) lo hi = ((l.drop (HT.sIx l.length 0 lo)).take (HT.sIx l.length l.length hi - HT.sIx l.length 0 lo)).map f := by
  unfold cutV
  rw [List.length_map, ← List.map_drop, ← List.map_take]
theorem get_cells {H : Hp} {p l : Addr} {t n : Int} (e : H p = some (.dK (deckKV l t n))) : DGet H p (.str "cells") (some (.ref l)) := DGet.k (k := .inr "cells") e
theorem get_total {H : Hp} {p l : Addr} {t n : Int} (e : H p = some (.dK (deckKV l t n))) : DGet H p (.str "total") (some (.int t)) := DGet.k (k := .inr "total") e
theorem get_draws {H : Hp} {p l : Addr} {t n : Int} (e : H p = some (.dK (deckKV l t n))) : DGet H p (.str "draws") (some (.int n)) := DGet.k (k := .inr "draws") e
theorem put_draws {H : Hp} {p l : Addr} {t n m : Int} (e : H p = some (.dK (deckKV l t n))) : DPut H p (.str "draws") (.int m) (upd H p (.dK (deckKV l t m))) := DPut.k (k := .inr "draws") e (by show 3 < sizeLine; decide)
/-- a comprehension whose turns draw from the deck -/
theorem lc_draw {J : It} {n : Nat} {G : Hp → Prop} {Y : Nat → Hp → V → Hp → Prop} {g : TG} {te : TE} {vs : List Nat} {σ : L2.St} {H : Hp} {D p l : Addr} {Qd : Hp → Prop} {N k : Nat} (w : Walk J n G Y) (hD : H D = none) (hn : n ≤ sizeLine) (d0 : DeckB H p l N)
    (P : Nat → List V → Hp → Prop) (h0 : P 0 [] H) (mono : ∀ i acc H1 H2, P i acc H1 → Tups H1 H2 → P i acc H2) (hG : ∀ H' M, Stp p l M H H' → G H')
    (hs : ∀ i x H1 H1' acc (Kt : V → Hp → Prop), i < n → Stp p l (N + k * i) H H1 → P i acc H1 → Y i H1 x H1' → (∀ y H4, Stp p l (N + k * (i + 1)) H1 H4 → P (i + 1) (acc ++ [y]) H4 → Kt y H4) →
      g x (wipe σ vs) H1' fun σ2 H2 => wipe σ2 vs = wipe σ vs ∧ te σ2 H2 Kt)
    (hd : ∀ acc H', Stp p l (N + k * n) H H' → H' D = some (.lst acc) → acc.length = n → P n acc H' → Qd H') : Turns J g tYes te vs σ H D Qd := by
  have hDp := (d0.ne_new hD).1
  have hDl := (d0.ne_new hD).2
  have up : ∀ (H1 : Hp) (M : Nat) (o : HO), Stp p l M H H1 → Stp p l M H (upd H1 D o) := fun H1 M o a => by
    refine ⟨fun b u h1 h2 e => ?_, ?_⟩
    · rw [upd_ne (ne_of_none e hD)]
      exact a.keep b u h1 h2 e
    · obtain ⟨c, t, m, h1, h2, h3, h4⟩ := a.deck
      exact ⟨c, t, m, by rw [upd_ne (Ne.symm hDp)]; exact h1, by rw [upd_ne (Ne.symm hDl)]; exact h2, h3, h4⟩
  have tu : ∀ (H1 : Hp) (xs ys : List V), H1 D = some (.lst xs) → Tups H1 (upd H1 D (.lst ys)) := fun H1 xs ys e a us ea => by
    rw [upd_ne (fun z => by rw [z, e] at ea; cases ea)]
    exact ea
  refine lc_it w (fun i H' => Stp p l (N + k * i) H H' ∧ ∃ acc, H' D = some (.lst acc) ∧ acc.length = i ∧ P i acc H') ?_ (fun i H' _ q => hG H' _ q.1) (fun i x H1 H1' hi q hy => ?_) (fun H' q => ?_)
  · exact ⟨up _ _ _ (Stp.refl d0), [], upd_same, rfl, mono _ _ _ _ h0 (tupsOf (same_new hD))⟩
  · obtain ⟨sm, acc, hd1, hl, hp⟩ := q
    have r := hs i x H1 H1' acc (fun y H4 => ∃ acc, H4 D = some (.lst acc) ∧ acc.length < sizeLine ∧ Stp p l (N + k * (i + 1)) H (upd H4 D (.lst (acc ++ [y]))) ∧ ∃ acc', upd H4 D (.lst (acc ++ [y])) D = some (.lst acc') ∧ acc'.length = i + 1 ∧ P (i + 1) acc' (upd H4 D (.lst (acc ++ [y])))) hi sm hp hy (fun y H4 s4 p4 => ?_)
    · exact r
    · have e4 := s4.keep _ _ hDp hDl hd1
      exact ⟨acc, e4, by omega, up _ _ _ (sm.trans s4), _, upd_same, by rw [List.length_append, hl, List.length_singleton], mono _ _ _ _ p4 (tu _ _ _ e4)⟩
  · obtain ⟨sm, acc, hd1, hl, hp⟩ := q
    exact hd acc H' sm hd1 hl hp
end G96

namespace G96
open PySem PySem.Spec PyProof.Rows L2 TL
/-! texts whose words are short -/
/-- no run without a blank is longer than W -/
def Rn (W : Nat) (l : List Nat) : Prop := ∀ r, r <:+: l → (∀ c ∈ r, c ≠ 32) → r.length ≤ W
theorem Rn.infix {W : Nat} {l m : List Nat} (h : Rn W l) (i : m <:+: l) : Rn W m := fun r hr hc => h r (hr.trans i) hc
theorem Rn.mono {V W : Nat} {l : List Nat} (h : Rn V l) (hw : V ≤ W) : Rn W l := fun r hr hc => Nat.le_trans (h r hr hc) hw
theorem Rn.short {W : Nat} {l : List Nat} (h : l.length ≤ W) : Rn W l := fun r hr _ => Nat.le_trans hr.length_le h
theorem infix_append_cases {r l m : List Nat} (h : r <:+: l ++ m) : r <:+: l ∨ r <:+: m ∨ ∃ a b, r = a ++ b ∧ a <:+ l ∧ b <+: m := by
  obtain ⟨p, q, e⟩ := h
  rcases List.append_eq_append_iff.mp e with ⟨a, e1, e2⟩ | ⟨c, e1, e2⟩
  · exact .inl ⟨p, a, e1.symm⟩
  · rcases List.append_eq_append_iff.mp e1 with ⟨d, e3, e4⟩ | ⟨a, e3, e4⟩
    · exact .inr (.inr ⟨d, c, e4, ⟨p, e3.symm⟩, ⟨q, e2.symm⟩⟩)
    · exact .inr (.inl ⟨a, q, by rw [← e4, e2]⟩)
theorem Rn.append {V W : Nat} {l m : List Nat} (h1 : Rn V l) (h2 : Rn W m) : Rn (V + W) (l ++ m) := fun r hr hc => by
  rcases infix_append_cases hr with h | h | ⟨a, b, rfl, ha, hb⟩
  · exact Nat.le_trans (h1 r h hc) (Nat.le_add_right _ _)
  · exact Nat.le_trans (h2 r h hc) (Nat.le_add_left _ _)
  · rw [List.length_append]
    exact Nat.add_le_add (h1 a ha.isInfix fun c hx => hc c (List.mem_append_left _ hx)) (h2 b hb.isInfix fun c hx => hc c (List.mem_append_right _ hx))
theorem Rn.sep {W : Nat} {l m : List Nat} {s : Nat} (hs : s = 32) (h1 : Rn W l) (h2 : Rn W m) : Rn W (l ++ s :: m) := fun r hr hc => by
  have ns : s ∉ r := fun h => by
    have := hc s h
    omega
  rcases infix_append_cases hr with h | h | ⟨a, b, rfl, ha, hb⟩
  · exact h1 r h hc
  · rcases List.infix_cons_iff.mp h with h | h
    · cases r with
      | nil => exact Nat.zero_le _
      | cons c r =>
        obtain ⟨q, e⟩ := h
        cases e
        exact absurd List.mem_cons_self ns
    · exact h2 r h hc
  · cases b with
    | nil =>
      rw [List.append_nil] at hc ⊢
      exact h1 a ha.isInfix hc
    | cons c b =>
      obtain ⟨q, e⟩ := hb
      cases e
      exact absurd (List.mem_append_right _ List.mem_cons_self) ns
theorem Rn.join {W s : Nat} (hs : s = 32) : ∀ {ps : List (List Nat)}, (∀ p ∈ ps, Rn W p) → Rn W (joinL [s] ps)
  | [], _ => Rn.short (Nat.zero_le _)
  | [p], h => h p List.mem_cons_self
  | p :: q :: ps, h => by
    show Rn W (p ++ ([s] ++ joinL [s] (q :: ps)))
    exact Rn.sep hs (h p List.mem_cons_self) (Rn.join hs fun x hx => h x (List.mem_cons_of_mem _ hx))
/-- the parts of a text -/
theorem spl_parts (s : Nat) : ∀ (l acc : List Nat), s ∉ acc → ∀ p ∈ spl [s] 0 acc l, s ∉ p ∧ p <:+: acc ++ l
  | [], acc, ha, p, hp => by
    rw [spl_nil, List.mem_singleton] at hp
    subst hp
    rw [List.append_nil]
    exact ⟨ha, List.infix_rfl⟩
  | c :: r, acc, ha, p, hp => by
    by_cases hc : c = s
    · subst hc
      rw [spl_hit (by unfold pre; simp)] at hp
      rcases List.mem_cons.mp hp with rfl | hp
      · exact ⟨ha, (List.prefix_append _ _).isInfix⟩
      · obtain ⟨h1, h2⟩ := spl_parts c r [] (by simp) p hp
        exact ⟨h1, h2.trans ⟨acc ++ [c], [], by simp⟩⟩
    · rw [spl_miss (by unfold pre; simp [hc])] at hp
      obtain ⟨h1, h2⟩ := spl_parts s r (acc ++ [c]) (by simp [ha]; exact fun z => hc z.symm) p hp
      rw [List.append_assoc] at h2
      exact ⟨h1, h2⟩
theorem split_parts {x y : Str} {s : Nat} (ey : tl y = [s]) (hs : s < 256) {p : Str} (hp : p ∈ Txt.split x y) : s ∉ tl p ∧ tl p <:+: tl x := by
  have q := split_spl x y (by rw [ey]; simp) (kind_ok (by
    have e : y.cps = #[s] := by rw [← ey]
    rw [e]
    simp [hs]))
  have hm : tl p ∈ (Txt.split x y).map tl := List.mem_map_of_mem hp
  rw [q, ey] at hm
  have r := spl_parts s (tl x) [] (by simp) _ hm
  exact r
/-- plain signs, short, with short words -/
structure TextA (W L : Nat) (x : Str) : Prop where
  plain : ∀ c ∈ tl x, c < 128
  len : x.length ≤ L
  run : Rn W (tl x)
theorem TextA.mono {V W K L : Nat} {x : Str} (h : TextA V K x) (h1 : V ≤ W) (h2 : K ≤ L) : TextA W L x := ⟨h.plain, Nat.le_trans h.len h2, h.run.mono h1⟩
theorem TextA.short {W L : Nat} {x : Str} (h : ∀ c ∈ tl x, c < 128) (h1 : x.length ≤ W) (h2 : x.length ≤ L) : TextA W L x := ⟨h, h2, Rn.short (by rw [← len_tl]; exact h1)⟩
theorem TextA.sub {W L : Nat} {x y : Str} (h : TextA W L x) (i : tl y <:+: tl x) : TextA W L y :=
  ⟨fun c hc => h.plain c (i.subset hc), by rw [len_tl]; exact Nat.le_trans i.length_le (by rw [← len_tl]; exact h.len), h.run.infix i⟩
theorem TextA.append {V W K L : Nat} {x y : Str} (h1 : TextA V K x) (h2 : TextA W L y) : TextA (V + W) (K + L) (x ++ y) := by
  refine ⟨fun c hc => ?_, ?_, ?_⟩
  · rw [tl_append] at hc
    rcases List.mem_append.mp hc with z | z
    · exact h1.plain c z
    · exact h2.plain c z
  · rw [len_tl, tl_append, List.length_append, ← len_tl, ← len_tl]
    exact Nat.add_le_add h1.len h2.len
  · rw [tl_append]
    exact h1.run.append h2.run
theorem split_len (x y : Str) : (Txt.split x y).length ≤ x.length + 2 := PyProof.Rows.split_le x y
theorem tl_blank : tl (Str.ofString " ") = [32] := by decide +kernel
theorem tl_break : tl (Str.ofString "\n") = [10] := by decide +kernel
theorem tl_cut' (x : Str) (lo hi : Option Int) : tl (cutS x lo hi) = ((tl x).drop (HT.sIx x.length 0 lo)).take (HT.sIx x.length x.length hi - HT.sIx x.length 0 lo) := rfl
theorem TextA.words {W L : Nat} {x p : Str} (h : TextA W L x) (hp : p ∈ Txt.split x (Str.ofString " ")) : TextA W L p := h.sub (split_parts tl_blank (by decide) hp).2
theorem TextA.lines {W L : Nat} {x p : Str} (h : TextA W L x) (hp : p ∈ Txt.split x (Str.ofString "\n")) : TextA W L p := h.sub (split_parts tl_break (by decide) hp).2
theorem TextA.word_len {W L : Nat} {x z : Str} (h : TextA W L x) (hz : z ∈ Txt.split x (Str.ofString " ")) : z.length ≤ W := by
  have h2 := split_parts tl_blank (by decide) hz
  rw [len_tl]
  exact h.run _ h2.2 fun c hc e => h2.1 (e ▸ hc)
end G96

namespace G96
open PySem PySem.Spec PyProof.Rows L2 TL
/-! lists of words -/
def wsum (ws : List Str) : Nat := (ws.map fun w => w.length + 1).sum
theorem wsum_append (a b : List Str) : wsum (a ++ b) = wsum a + wsum b := by
  unfold wsum
  rw [List.map_append, List.sum_append]
theorem wsum_cons (w : Str) (b : List Str) : wsum (w :: b) = (w.length + 1) + wsum b := by
  unfold wsum
  rw [List.map_cons, List.sum_cons]
theorem wsum_reverse : ∀ a : List Str, wsum a.reverse = wsum a
  | [] => rfl
  | w :: a => by
    rw [List.reverse_cons, wsum_append, wsum_cons, wsum_reverse a, wsum_cons]
    show _ + (_ + 0) = _
    omega
theorem wsum_len : ∀ a : List Str, a.length ≤ wsum a
  | [] => Nat.zero_le _
  | w :: a => by
    rw [wsum_cons, List.length_cons]
    have := wsum_len a
    omega
theorem wsum_mid (ws : List Str) {a b : Nat} (h : a ≤ b) : wsum (ws.take b) = wsum (ws.take a) + wsum ((ws.drop a).take (b - a)) := by
  have e : b = a + (b - a) := by omega
  rw [← wsum_append, ← List.take_add, ← e]
theorem wsum_take_drop (ws : List Str) (a : Nat) : wsum ws = wsum (ws.take a) + wsum (ws.drop a) := by
  rw [← wsum_append, List.take_append_drop]
theorem wsum_sub (ws : List Str) (a n : Nat) : wsum ((ws.drop a).take n) ≤ wsum ws := by
  have h1 := wsum_take_drop ws a
  have h2 := wsum_take_drop (ws.drop a) n
  omega
theorem spl_sum (s : Nat) : ∀ (l acc : List Nat), ((spl [s] 0 acc l).map fun p => p.length + 1).sum = acc.length + l.length + 1
  | [], acc => by
    rw [spl_nil]
    simp
  | c :: r, acc => by
    by_cases hc : c = s
    · subst hc
      rw [spl_hit (by unfold pre; simp), List.map_cons, List.sum_cons]
      have ih := spl_sum c r []
      rw [show [c].length - 1 = 0 from rfl, ih, List.length_nil, List.length_cons]
      omega
    · rw [spl_miss (by unfold pre; simp [hc]), spl_sum s r (acc ++ [c]), List.length_append, List.length_cons, List.length_cons, List.length_nil]
      omega
theorem wsum_split (x : Str) : wsum (Txt.split x (Str.ofString " ")) = x.length + 1 := by
  have q := split_spl x (Str.ofString " ") (by rw [tl_blank]; simp) (kind_ok (by decide +kernel))
  have e : wsum (Txt.split x (Str.ofString " ")) = (((Txt.split x (Str.ofString " ")).map tl).map fun p => p.length + 1).sum := by
    unfold wsum
    rw [List.map_map]
    congr 1
  rw [e, q, tl_blank, spl_sum, List.length_nil, len_tl]
  omega
theorem joinL_len (s : Nat) : ∀ ps : List (List Nat), (joinL [s] ps).length ≤ (ps.map fun p => p.length + 1).sum
  | [] => Nat.zero_le _
  | [p] => by
    show p.length ≤ _
    simp
  | p :: q :: r => by
    show (p ++ ([s] ++ joinL [s] (q :: r))).length ≤ _
    have ih := joinL_len s (q :: r)
    rw [List.length_append, List.length_append, List.map_cons, List.sum_cons, List.length_singleton]
    omega
theorem join_subset (s : Nat) : ∀ (ps : List (List Nat)) (c : Nat), c ∈ joinL [s] ps → c = s ∨ ∃ p ∈ ps, c ∈ p
  | [], c, h => by cases h
  | [p], c, h => .inr ⟨p, List.mem_cons_self, h⟩
  | p :: q :: r, c, h => by
    rcases List.mem_append.mp (show c ∈ p ++ ([s] ++ joinL [s] (q :: r)) from h) with h | h
    · exact .inr ⟨p, List.mem_cons_self, h⟩
    · rcases List.mem_append.mp h with h | h
      · exact .inl (List.mem_singleton.mp h)
      · rcases join_subset s (q :: r) c h with h | ⟨p', h1, h2⟩
        · exact .inl h
        · exact .inr ⟨p', List.mem_cons_of_mem _ h1, h2⟩
def WOk (W : Nat) (w : Str) : Prop := (∀ c ∈ tl w, c < 128) ∧ Rn W (tl w)
theorem TextA.wok {W L : Nat} {x : Str} (h : TextA W L x) : WOk W x := ⟨h.plain, h.run⟩
theorem text_join {W M : Nat} {ws : List Str} (y : Str) {s : Nat} (ey : tl y = [s]) (hs : s = 32) (h : ∀ w ∈ ws, WOk W w) (hm : wsum ws ≤ M) : TextA W M (Txt.join y ws) := by
  have e : tl (Txt.join y ws) = joinL [s] (ws.map tl) := by rw [join_eq, tl_join, ey]
  refine ⟨fun c hc => ?_, ?_, ?_⟩
  · rw [e] at hc
    rcases join_subset s _ c hc with h1 | ⟨p, h1, h2⟩
    · omega
    · obtain ⟨w, hw, rfl⟩ := List.mem_map.mp h1
      exact (h w hw).1 c h2
  · rw [len_tl, e]
    refine Nat.le_trans (joinL_len s _) ?_
    rw [List.map_map]
    refine Nat.le_trans (Nat.le_of_eq ?_) hm
    unfold wsum
    congr 1
  · rw [e]
    exact Rn.join hs fun p hp => by
      obtain ⟨w, hw, rfl⟩ := List.mem_map.mp hp
      exact (h w hw).2
theorem wsum_sum (ws : List Str) : (ws.map (·.length)).sum + ws.length = wsum ws := by
  induction ws with
  | nil => rfl
  | cons w ws ih =>
    rw [List.map_cons, List.sum_cons, List.length_cons, wsum_cons]
    omega
/-! pieces of a text -/
theorem cut_infix (x : Str) (lo hi : Option Int) : tl (cutS x lo hi) <:+: tl x := ((List.take_prefix _ _).isInfix).trans (List.drop_suffix _ _).isInfix
theorem tl_cut (x : Str) (lo hi : Option Int) : tl (cutS x lo hi) = ((tl x).drop (HT.sIx x.length 0 lo)).take (HT.sIx x.length x.length hi - HT.sIx x.length 0 lo) := rfl
theorem text_two {W L : Nat} {x y : Str} {a b : List Nat} (h : TextA W L x) (e : tl y = a ++ b) (ha : a <:+: tl x) (hb : b <:+: tl x) : TextA (2 * W + 1) (2 * L + 30) y := by
  have h1 : TextA W L ⟨a.toArray⟩ := h.sub ha
  have h2 : TextA W L ⟨b.toArray⟩ := h.sub hb
  have e2 : y = (⟨a.toArray⟩ : Str) ++ ⟨b.toArray⟩ := ext_tl (by rw [tl_append, e])
  rw [e2]
  exact (h1.append h2).mono (by omega) (by omega)
theorem cut_mid {x : Str} {a t : Nat} (ha : a ≤ x.length) (ht : t ≤ x.length) : ∃ l m, tl (cutS x none (some (a : Nat)) ++ cutS x (some ((min a t : Nat) : Int)) (some ((max a t : Nat) : Int)) ++ cutS x (some (a : Nat)) none) = l ++ m ∧ l <:+: tl x ∧ m <:+: tl x := by
  have hx := len_tl x
  rw [tl_append, tl_append, tl_cut, tl_cut, tl_cut]
  simp only [HT.sIx_nat, HT.sIx_none, List.drop_zero, Nat.sub_zero, Nat.min_eq_left ha, Nat.min_eq_left (show min a t ≤ x.length by omega), Nat.min_eq_left (show max a t ≤ x.length by omega)]
  have full : ∀ k, ((tl x).drop k).take (x.length - k) = (tl x).drop k := fun k => List.take_of_length_le (by rw [List.length_drop]; omega)
  rw [full]
  by_cases h : a ≤ t
  · rw [Nat.min_eq_left h, Nat.max_eq_right h]
    refine ⟨(tl x).take t, (tl x).drop a, ?_, (List.take_prefix _ _).isInfix, (List.drop_suffix _ _).isInfix⟩
    rw [← List.take_add, show a + (t - a) = t by omega]
  · rw [Nat.min_eq_right (by omega), Nat.max_eq_left (by omega)]
    refine ⟨(tl x).take a, (tl x).drop t, ?_, (List.take_prefix _ _).isInfix, (List.drop_suffix _ _).isInfix⟩
    rw [List.append_assoc]
    congr 1
    have e : (tl x).drop a = ((tl x).drop t).drop (a - t) := by rw [List.drop_drop]; congr 1; omega
    rw [e, List.take_append_drop]
end G96
namespace G96
open PySem PySem.Spec PyProof.Rows L2 TL
section
variable {K : PySem.W.Frag}
def cutL (ws : List Str) (lo hi : Option Int) : List Str := (ws.drop (HT.sIx ws.length 0 lo)).take (HT.sIx ws.length ws.length hi - HT.sIx ws.length 0 lo)
theorem cutL_sub {ws : List Str} {lo hi : Option Int} {w : Str} (h : w ∈ cutL ws lo hi) : w ∈ ws := List.mem_of_mem_drop (List.mem_of_mem_take h)
theorem cutL_wsum (ws : List Str) (lo hi : Option Int) : wsum (cutL ws lo hi) ≤ wsum ws := wsum_sub ws _ _
theorem sl_step {H0 H : Hp} {a : Addr} {ws : List Str} {lo hi : Option Int} {Q : VK} (s0 : Same H0 H) (ha : H a = some (.lst (ws.map V.str))) (k : ∀ p H', H p = none → Same H0 H' → Same H H' → H' p = some (.lst ((cutL ws lo hi).map V.str)) → Q (.ref p) H') : rSlL K (.ref a) lo hi H Q :=
  ⟨a, _, rfl, .of ha, fun p hp => k p _ hp (sameNew s0 hp) (same_new hp) (by rw [upd_same, cut_map]; rfl)⟩
theorem cat_step {H0 H : Hp} {a b : Addr} {ws us : List Str} {Q : VK} (s0 : Same H0 H) (ha : H a = some (.lst (ws.map V.str))) (hb : H b = some (.lst (us.map V.str))) (hl : ws.length + us.length ≤ 100000) (k : ∀ p H', Same H0 H' → Same H H' → H' p = some (.lst ((ws ++ us).map V.str)) → Q (.ref p) H') : rCat (.ref a) (.ref b) H Q := by
  have z : (100000 : Nat) ≤ sizeLine := by decide
  exact ⟨a, b, _, _, rfl, rfl, ha, hb, by rw [List.length_map, List.length_map]; omega, fun p hp => k p _ (sameNew s0 hp) (same_new hp) (by rw [upd_same, List.map_append])⟩
theorem join_step {H0 H : Hp} {a : Addr} {ws : List Str} {Q : VK} {W M : Nat} (s0 : Same H0 H) (ha : H a = some (.lst (ws.map V.str))) (h : ∀ w ∈ ws, WOk W w) (hm : wsum ws ≤ M) (hM : M ≤ 100000) (k : ∀ y, TextA W M y → Q (.str y) H) : rJoin K (.str (Str.ofString " ")) [.ref a] H Q := by
  have e1 : (Str.ofString " ").length = 1 := by decide +kernel
  refine ⟨_, a, ws, rfl, rfl, .of ha, ?_, k _ (text_join _ tl_blank rfl h hm)⟩
  rw [e1, Nat.mul_one, wsum_sum]
  omega
end
end G96

namespace G96
open PySem PySem.Spec PyProof.Rows L2 TL
theorem flat_one (w : Str) (b : Bool) : ∃ us : List Str, (List.replicate (if b = true then (1 : Int) else 0).toNat [V.str w]).flatten = us.map V.str ∧ (∀ u ∈ us, u = w) ∧ wsum us ≤ w.length + 1 ∧ us.length ≤ 1 := by
  cases b with
  | true => exact ⟨[w], rfl, fun u hu => List.mem_singleton.mp hu, by rw [wsum_cons]; exact Nat.le_refl _, Nat.le_refl _⟩
  | false => exact ⟨[], rfl, (fun u hu => by cases hu), Nat.zero_le _, Nat.zero_le _⟩
end G96
namespace G96
open PySem PySem.Spec PyProof.Rows L2 TL
theorem cut3 (ws : List Str) (s : Nat) : wsum (cutL ws none (some (s : Nat))) + wsum (cutL ws (some (s : Nat)) (some ((s : Int) + 2))) + wsum (cutL ws (some ((s : Int) + 2)) none) ≤ wsum ws := by
  unfold cutL
  have e : ((s : Int) + 2) = ((s + 2 : Nat) : Int) := by omega
  rw [e]
  simp only [HT.sIx_nat, HT.sIx_none, List.drop_zero, Nat.sub_zero]
  have h1 := wsum_mid ws (show min s ws.length ≤ min (s + 2) ws.length by omega)
  have h2 := wsum_take_drop ws (min (s + 2) ws.length)
  have h3 := wsum_sub (ws.drop (min (s + 2) ws.length)) 0 (ws.length - min (s + 2) ws.length)
  rw [List.drop_zero] at h3
  omega
end G96

/-! zip of a tuple and a list -/
namespace G96
open PySem PySem.Spec PyProof.Rows L2
section
variable {prog : Program} {w : World} {A : Around} {E : Value → Shared → Prop} {s : Shared} {o P2 P1 u v lt ll : Addr} {j k : Nat} {xs ys : Array Value}
/-- where it stands: the zip object o, its two pairs, the tuple's cursor u at j, the list's cursor v at k -/
structure ZM (h : Heap) (o P1 P2 u v lt ll : Addr) (j k : Nat) (xs ys : Array Value) : Prop where
  z : IsZip h o P1 P2 .none
  p1 : IsPair h P1 (.ref u) (.ref v)
  p2 : ∃ a b, IsPair h P2 a b
  cu : h.IsTupleIter u lt j
  cv : h.IsListIter v ll k
  tu : h.IsTuple lt xs
  li : h.IsList ll ys
theorem zm_item {x y : Value} {Q : Value → Shared → Prop} (D : ZipApart o P1 P2 u v lt ll) (S : ZM s.heap o P1 P2 u v lt ll j k xs ys) (hx : xs[j]? = some x) (hy : ys[k]? = some y)
    (hQ : ∀ h', IsZip h' o P1 P2 (rawInt s.heap.objs.size) → IsPair h' P2 x y → h'.IsTupleIter u lt (j + 1) → h'.IsListIter v ll (k + 1) → IsPair h' s.heap.objs.size x y → h'.objs.size = s.heap.objs.size + 1 →
      (∀ c ob, (c ≠ o ∧ c ≠ P2 ∧ c ≠ u ∧ c ≠ v) → s.heap.get? c = some ob → h'.get? c = some ob) → Q (.ref s.heap.objs.size) { s with heap := h' }) :
    wpAny (model prog w) A (Builtin.«zip.__next__» ⟨[.ref o], []⟩) (fun fin s' => ∃ r, fin = .done (.ret r) ∧ Q r s') E s := by
  obtain ⟨a, b, q2⟩ := S.p2
  show wpAny _ _ (field (.ref o) 2 >>= _) _ _ _; apply wpAny_bind; refine wpAny_field S.z rfl (x := .bool false) rfl ?_
  show wpAny _ _ (field (.ref o) 3 >>= _) _ _ _; apply wpAny_bind; refine wpAny_field S.z rfl (x := .ref P1) rfl ?_
  apply wpAny_bind; refine wpAny_seqItems S.p1 rfl ?_
  show wpAny _ _ (Builtin.SmallTypes.ownedTupleIsFree (.ref o) >>= _) _ _ _; apply wpAny_bind; unfold Builtin.SmallTypes.ownedTupleIsFree
  apply wpAny_bind; refine wpAny_field S.z rfl (x := .none) rfl (wpAny_pure ?_)
  rw [if_pos rfl]
  apply wpAny_bind; apply wpAny_rule
  apply wpAny_bind; refine wpAny_field S.z rfl (x := .ref P2) rfl ?_
  apply wpAny_bind; refine wpAny_setField_rec S.z (by simp) fun ha z1 ka => ?_
  have z1 : IsZip ha o P1 P2 .ellipsis := z1
  apply wpAny_bind
  simp only [List.zipIdx_cons, List.zipIdx_nil, List.forIn_cons, List.forIn_nil]
  apply wpAny_bind; apply wpAny_bind; apply wpAny_onRaise
  show wpAny _ _ (Builtin.SmallTypes.nextOf (.ref u) >>= _) _ _ _; apply wpAny_bind
  refine RZ.nextOf_tuple_item (S.cu.extBut ka.extBut D.i1z) (S.tu.extBut ka.extBut D.l1z) hx fun hb cu kb => wpAny_pure ?_
  have q2b : IsPair hb P2 a b := kb.extBut _ _ D.TOi1 (ka.extBut _ _ D.TOz q2)
  apply wpAny_bind; refine wpAny_seqItems q2b rfl ?_
  apply wpAny_bind; refine wpAny_updateSeq_pair q2b fun hc q2c kc => ?_
  have q2c : IsPair hc P2 x b := q2c
  apply wpAny_bind; refine wpAny_letGo (wpAny_pure ?_)
  apply wpAny_bind; apply wpAny_bind; apply wpAny_onRaise
  show wpAny _ _ (Builtin.SmallTypes.nextOf (.ref v) >>= _) _ _ _; apply wpAny_bind
  have cvc := ((S.cv.extBut ka.extBut D.i2z).extBut kb.extBut D.i12.symm).extBut kc.extBut D.TOi2.symm
  have lic := ((S.li.extBut ka.extBut D.l2z).extBut kb.extBut D.l2i1).extBut kc.extBut D.l2TO
  refine wpAny_nextOf_list_item cvc lic hy fun hd cv kd => wpAny_pure ?_
  have q2d : IsPair hd P2 x b := kd.extBut _ _ D.TOi2 q2c
  apply wpAny_bind; refine wpAny_seqItems q2d rfl ?_
  apply wpAny_bind; refine wpAny_updateSeq_pair q2d fun he q2e ke => ?_
  have q2e : IsPair he P2 x y := q2e
  apply wpAny_bind; refine wpAny_letGo (wpAny_pure (wpAny_pure ?_))
  apply wpAny_bind; refine wpAny_seqItems q2e rfl ?_
  apply wpAny_bind; refine wpAny_newTuple ?_
  have size : he.objs.size = s.heap.objs.size := by rw [ke.1, kd.1, kc.1, kb.1, ka.1]
  have ze : IsZip he o P1 P2 .ellipsis := ke.extBut _ _ D.TOz.symm <| kd.extBut _ _ D.i2z.symm <| kc.extBut _ _ D.TOz.symm <| kb.extBut _ _ D.i1z.symm z1
  have keepE : ∀ c ob, (c ≠ o ∧ c ≠ P2 ∧ c ≠ u ∧ c ≠ v) → s.heap.get? c = some ob → he.get? c = some ob := fun c ob n g =>
    ke.extBut _ _ n.2.1 <| kd.extBut _ _ n.2.2.2 <| kc.extBut _ _ n.2.1 <| kb.extBut _ _ n.2.2.1 <| ka.extBut _ _ n.1 g
  have cue := ((cu.extBut kc.extBut D.TOi1.symm).extBut kd.extBut D.i12).extBut ke.extBut D.TOi1.symm
  have cve := cv.extBut ke.extBut D.TOi2.symm
  have olt : o < he.objs.size := Heap.lt_size ze
  show wpAny _ _ (Builtin.SmallTypes.ownedTupleHandOut (.ref o) (.ref he.objs.size) >>= _) _ _ _; apply wpAny_bind
  unfold Builtin.SmallTypes.ownedTupleHandOut
  have zf : IsZip (he.push { cls := .type "tuple", data := .seq #[x, y] }) o P1 P2 .ellipsis := Heap.get?_push_of_some _ ze
  apply wpAny_bind; refine wpAny_setField_rec zf (by simp) fun hg zg kg => ?_
  have zg : IsZip hg o P1 P2 (rawInt he.objs.size) := zg
  refine wpAny_setField_rec zg (by simp) fun hh zh kh => ?_
  have zh : IsZip hh o P1 P2 (rawInt he.objs.size) := zh
  have up : ∀ c ob, c ≠ o → he.get? c = some ob → hh.get? c = some ob := fun c ob n g => kh.extBut _ _ n <| kg.extBut _ _ n <| Heap.get?_push_of_some _ g
  have tp : IsPair hh he.objs.size x y := kh.extBut _ _ (Nat.ne_of_gt olt) <| kg.extBut _ _ (Nat.ne_of_gt olt) <| Heap.get?_push_size _ rfl
  have sz : hh.objs.size = he.objs.size + 1 := by rw [kh.1, kg.1, Heap.size_push]
  rw [size] at zh tp sz
  refine wpAny_pure ⟨_, rfl, ?_⟩
  show Q (.ref he.objs.size) _; rw [size]
  exact hQ hh zh (up _ _ D.TOz q2e) (cue.at fun ob g => up _ ob D.i1z g) (cve.at fun ob g => up _ ob D.i2z g) tp sz fun c ob n g => up c ob n.1 (keepE c ob n g)
theorem zm_end {Q : Fin → Shared → Prop} (hand : A.handled = none) (D : ZipApart o P1 P2 u v lt ll) (S : ZM s.heap o P1 P2 u v lt ll j k xs ys) (fin : xs[j]? = none ∨ ys[k]? = none)
    (hE : ∀ h' e, (∀ c ob, (c ≠ o ∧ c ≠ P2 ∧ c ≠ u ∧ c ≠ v) → s.heap.get? c = some ob → h'.get? c = some ob) → (∃ ob, h'.get? e = some ob ∧ ob.cls = .type "StopIteration") → E (.ref e) { s with heap := h' }) :
    wpAny (model prog w) A (Builtin.«zip.__next__» ⟨[.ref o], []⟩) Q E s := by
  obtain ⟨a, b, q2⟩ := S.p2
  show wpAny _ _ (field (.ref o) 2 >>= _) _ _ _; apply wpAny_bind; refine wpAny_field S.z rfl (x := .bool false) rfl ?_
  show wpAny _ _ (field (.ref o) 3 >>= _) _ _ _; apply wpAny_bind; refine wpAny_field S.z rfl (x := .ref P1) rfl ?_
  apply wpAny_bind; refine wpAny_seqItems S.p1 rfl ?_
  show wpAny _ _ (Builtin.SmallTypes.ownedTupleIsFree (.ref o) >>= _) _ _ _; apply wpAny_bind; unfold Builtin.SmallTypes.ownedTupleIsFree
  apply wpAny_bind; refine wpAny_field S.z rfl (x := .none) rfl (wpAny_pure ?_)
  rw [if_pos rfl]
  apply wpAny_bind; apply wpAny_rule
  apply wpAny_bind; refine wpAny_field S.z rfl (x := .ref P2) rfl ?_
  apply wpAny_bind; refine wpAny_setField_rec S.z (by simp) fun ha z1 ka => ?_
  have z1 : IsZip ha o P1 P2 .ellipsis := z1
  apply wpAny_bind
  simp only [List.zipIdx_cons, List.zipIdx_nil, List.forIn_cons, List.forIn_nil]
  apply wpAny_bind; apply wpAny_bind; apply wpAny_onRaise
  show wpAny _ _ (Builtin.SmallTypes.nextOf (.ref u) >>= _) _ _ _; apply wpAny_bind
  have cua := S.cu.extBut ka.extBut D.i1z
  have tua := S.tu.extBut ka.extBut D.l1z
  cases hx : xs[j]? with
  | none =>
    refine RZ.nextOf_tuple_end hand cua tua hx fun hb e kb ⟨ob, g, ce⟩ => ?_
    have zb : IsZip hb o P1 P2 .ellipsis := kb _ _ D.i1z.symm z1
    have ne : e ≠ o := fun q => by
      rw [q, zb] at g
      cases g
      simp at ce
    exact wpAny_setField_rec zb (by simp) fun hc _ kc => hE hc e (fun c o' n g' => kc.extBut _ _ n.1 <| kb _ _ n.2.2.1 <| ka.extBut _ _ n.1 g') ⟨ob, kc.extBut _ _ ne g, ce⟩
  | some x =>
    have hy : ys[k]? = none := fin.elim (fun q => by rw [hx] at q; cases q) id
    refine RZ.nextOf_tuple_item cua tua hx fun hb cu kb => wpAny_pure ?_
    have q2b : IsPair hb P2 a b := kb.extBut _ _ D.TOi1 (ka.extBut _ _ D.TOz q2)
    apply wpAny_bind; refine wpAny_seqItems q2b rfl ?_
    apply wpAny_bind; refine wpAny_updateSeq_pair q2b fun hc q2c kc => ?_
    apply wpAny_bind; refine wpAny_letGo (wpAny_pure ?_)
    apply wpAny_bind; apply wpAny_bind; apply wpAny_onRaise
    show wpAny _ _ (Builtin.SmallTypes.nextOf (.ref v) >>= _) _ _ _; apply wpAny_bind
    have cvc := ((S.cv.extBut ka.extBut D.i2z).extBut kb.extBut D.i12.symm).extBut kc.extBut D.TOi2.symm
    have lic := ((S.li.extBut ka.extBut D.l2z).extBut kb.extBut D.l2i1).extBut kc.extBut D.l2TO
    refine wpAny_nextOf_list_end hand cvc lic hy fun hd e kd ⟨ob, g, ce⟩ => ?_
    have zd : IsZip hd o P1 P2 .ellipsis := kd _ _ D.i2z.symm <| kc.extBut _ _ D.TOz.symm <| kb.extBut _ _ D.i1z.symm z1
    have ne : e ≠ o := fun q => by
      rw [q, zd] at g
      cases g
      simp at ce
    exact wpAny_setField_rec zd (by simp) fun hf _ kf => hE hf e (fun c o' n g' => kf.extBut _ _ n.1 <| kd _ _ n.2.2.2 <| kc.extBut _ _ n.2.1 <| kb.extBut _ _ n.2.2.1 <| ka.extBut _ _ n.1 g') ⟨ob, kf.extBut _ _ ne g, ce⟩
/-- the four that a turn writes -/
abbrev Off (o P2 u v c : Addr) : Prop := c ≠ o ∧ c ≠ P2 ∧ c ≠ u ∧ c ≠ v
theorem zm_nextItem {x y : Value} {Q : Option Value → Shared → Prop} (D : ZipApart o P1 P2 u v lt ll) (S : ZM s.heap o P1 P2 u v lt ll j k xs ys) (hx : xs[j]? = some x) (hy : ys[k]? = some y)
    (hQ : ∀ h', IsZip h' o P1 P2 (rawInt s.heap.objs.size) → IsPair h' P2 x y → h'.IsTupleIter u lt (j + 1) → h'.IsListIter v ll (k + 1) → IsPair h' s.heap.objs.size x y →
      (∀ c ob, Off o P2 u v c → s.heap.get? c = some ob → h'.get? c = some ob) → Q (some (.ref s.heap.objs.size)) { s with heap := h' }) : wpAny (model prog w) A (pyNext (.ref o)) Q E s := by
  have ty : s.TypeIs (.ref o) "zip" := ⟨_, S.z, rfl⟩
  unfold pyNext
  apply wpAny_bind; apply wpAny_attempt
  refine wpAny_callSpecial?_slot (name := Str.ofString "__next__") ty F.slot_zip_next ?_
  exact wpAny_call_entry F.slot_zip_next ty F.entry_zip_next (zm_item D S hx hy fun h' a1 a2 a3 a4 a5 _ a7 => wpAny_pure (hQ h' a1 a2 a3 a4 a5 a7)) (F.args_zip_next_1 _)
theorem zm_nextEnd {Q : Option Value → Shared → Prop} (hand : A.handled = none) (D : ZipApart o P1 P2 u v lt ll) (S : ZM s.heap o P1 P2 u v lt ll j k xs ys) (fin : xs[j]? = none ∨ ys[k]? = none)
    (hQ : ∀ h', (∀ c ob, Off o P2 u v c → s.heap.get? c = some ob → h'.get? c = some ob) → Q none { s with heap := h' }) : wpAny (model prog w) A (pyNext (.ref o)) Q E s := by
  have ty : s.TypeIs (.ref o) "zip" := ⟨_, S.z, rfl⟩
  unfold pyNext
  apply wpAny_bind; apply wpAny_attempt
  refine wpAny_callSpecial?_slot (name := Str.ofString "__next__") ty F.slot_zip_next ?_
  refine wpAny_call_entry F.slot_zip_next ty F.entry_zip_next (zm_end hand D S fin fun h' e kp ⟨ob, g, ce⟩ => ?_) (F.args_zip_next_1 _)
  apply wpAny_bind
  exact wpAny_isInstance (T := "StopIteration") (b := true) ⟨ob, g, ce⟩ isSubtype_stop (wpAny_pure (hQ _ kp))
end
/-- the five objects that zip(tuple, list) lays -/
abbrev zm1 (lt : Addr) : Obj := { cls := .type "tuple_iterator", data := .fields #[.ref lt, .int 0 0] }
abbrev zm2 (ll : Addr) : Obj := { cls := .type "list_iterator", data := .fields #[.ref ll, .int 0 0] }
abbrev zmA (h : Heap) (lt ll : Addr) : Heap := (h.push (zm1 lt)).push (zm2 ll)
abbrev zmB (h : Heap) (lt ll : Addr) : Heap := (zmA h lt ll).push { cls := .type "tuple", data := .seq #[.ref h.objs.size, .ref (h.push (zm1 lt)).objs.size] }
abbrev zmC (h : Heap) (lt ll : Addr) : Heap := (zmB h lt ll).push { cls := .type "tuple", data := .seq #[.none, .none] }
abbrev zmD (h : Heap) (lt ll : Addr) : Heap := (zmC h lt ll).push { cls := .type "zip", data := .fields #[.none, .bool false, .bool false, .ref (zmA h lt ll).objs.size, .ref (zmB h lt ll).objs.size] }
theorem zm_meets (lt ll : Addr) (xs ys : Array Value) :
    Meets (Builtin.«zip.__new__» ⟨[.type "zip", .ref lt, .ref ll], []⟩) (fun _ R s => s.heap.IsTuple lt xs ∧ s.heap.IsList ll ys ∧ R (.ok (.ret (.ref (zmC s.heap lt ll).objs.size))) { s with heap := zmD s.heap lt ll }) :=
  .of_wp fun prog w A R s h => by
    obtain ⟨hp, g, d, tk, os⟩ := s
    obtain ⟨t1, t2, h⟩ := h
    have hsub := sub_zip
    have T1 : Heap.IsTuple (Shared.heap ⟨hp, g, d, tk, os⟩) lt xs := t1
    have T2 : Heap.IsList (Shared.heap ⟨hp.push (zm1 lt), g, d, tk, os⟩) ll ys := Heap.IsList.push t2 _
    wp_walk using wpAny_pyIter_tuple T1, wpAny_pyIter_list T2
    exact ⟨_, rfl, h⟩
section
variable {prog : Program} {w : World} {A : Around} {E : Value → Shared → Prop} {s : Shared} {lt ll : Addr} {xs ys : Array Value}
theorem zm_call {Q : Value → Shared → Prop} (t1 : s.heap.IsTuple lt xs) (t2 : s.heap.IsList ll ys)
    (h : ∀ h' n, n = s.heap.objs.size → IsZip h' (n + 4) (n + 2) (n + 3) .none → IsPair h' (n + 2) (.ref n) (.ref (n + 1)) → IsPair h' (n + 3) .none .none → h'.IsTupleIter n lt 0 → h'.IsListIter (n + 1) ll 0 →
      (∀ c o, s.heap.get? c = some o → h'.get? c = some o) → Q (.ref (n + 4)) { s with heap := h' }) : wpAny (model prog w) A (call (.type "zip") [.ref lt, .ref ll]) Q E s := by
  refine callType_new F.called_zip (by decide) (F.typeCall_zip_2 _ _) (F.newCall_zip_2 _ _) (fun ob => F.args_object_init_3 ob _ _) F.entry_zip_new (zm_meets lt ll xs ys) ⟨t1, t2, ?_⟩
  have up : ∀ {g : Heap} {ob ob' : Obj} {c : Addr}, g.get? c = some ob → (g.push ob').get? c = some ob := fun q => Heap.get?_push_of_some _ q
  have at_ : ∀ (g : Heap) (ob : Obj) (n : Nat), g.objs.size = n → ob.isFreed = false → (g.push ob).get? n = some ob := fun g ob n e f => by rw [← e]; exact Heap.get?_push_size _ f
  have s1 : (s.heap.push (zm1 lt)).objs.size = s.heap.objs.size + 1 := Heap.size_push ..
  have s2 : (zmA s.heap lt ll).objs.size = s.heap.objs.size + 2 := by rw [Heap.size_push, s1]
  have s3 : (zmB s.heap lt ll).objs.size = s.heap.objs.size + 3 := by rw [Heap.size_push, s2]
  have s4 : (zmC s.heap lt ll).objs.size = s.heap.objs.size + 4 := by rw [Heap.size_push, s3]
  have z : ∀ m1 m2, (zmA s.heap lt ll).objs.size = m1 → (zmB s.heap lt ll).objs.size = m2 → IsZip (zmD s.heap lt ll) (s.heap.objs.size + 4) m1 m2 .none := by
    intro m1 m2 e1 e2
    subst e1 e2
    exact at_ _ _ _ s4 rfl
  have p1 : ∀ m : Addr, (s.heap.push (zm1 lt)).objs.size = m → IsPair (zmD s.heap lt ll) (s.heap.objs.size + 2) (.ref s.heap.objs.size) (.ref m) := by
    intro m e
    subst e
    exact up (up (at_ _ _ _ s2 rfl))
  show _ ∧ _
  rw [s4]
  exact ⟨⟨_, z _ _ s2 s3, rfl⟩, h _ _ rfl (z _ _ s2 s3) (p1 _ s1) (up (at_ _ _ _ s3 rfl)) ⟨_, up (up (up (up (at_ _ _ _ rfl rfl)))), rfl, rfl⟩ ⟨_, up (up (up (at_ _ _ _ s1 rfl))), rfl, rfl⟩ fun c ob q => up (up (up (up (up q))))⟩
end
/-- the tuple at a and the list at b as they stand at each turn, the items in new pairs -/
def ItzM (K : PySem.W.Frag) (a b : Addr) : It where
  go := fun i H => ∃ xs ys, (SqT K H a xs ∧ SqL K H b ys) ∧ ∃ x y, xs[i]? = some x ∧ ys[i]? = some y
  yld := fun i H v H' => ∃ c x y, (v = .ref c ∧ H c = none ∧ H' = upd H c (.tup [x, y])) ∧ (∀ xs, SqT K H a xs → xs[i]? = some x) ∧ ∀ ys, SqL K H b ys → ys[i]? = some y
  stop := fun i H => ∃ xs ys, (SqT K H a xs ∧ SqL K H b ys) ∧ (xs.length ≤ i ∨ ys.length ≤ i)
def ZMst (o P1 P2 u v a b : Addr) (i : Nat) (h : Heap) : Prop := IsZip h o P1 P2 .none ∧ IsPair h P1 (.ref u) (.ref v) ∧ (∃ x y, IsPair h P2 x y) ∧ h.IsTupleIter u a i ∧ h.IsListIter v b i
theorem zm_turn {P : Program} {w : World} {K : PySem.W.Frag} {es : List Expr} {kk : Nat} {ps : Pos} {a b o P1 P2 u v : Addr} (D : ZipApart o P1 P2 u v a b) :
    Turn P w K (.Tuple es kk ps) (ItzM K a b) [o, P1, P2, u, v] o (ZMst o P1 P2 u v a b) where
  mem := List.mem_cons_self
  obj := fun i h st c hc => by
    obtain ⟨z, p1, ⟨x, y, p2⟩, ⟨ob1, g1, _, f1⟩, ⟨ob2, g2, _, f2⟩⟩ := st
    simp only [List.mem_cons, List.not_mem_nil, or_false] at hc
    rcases hc with rfl | rfl | rfl | rfl | rfl
    · exact ⟨_, z, fun _ q => nomatch q⟩
    · exact ⟨_, p1, fun _ q => nomatch q⟩
    · exact ⟨_, p2, fun _ q => nomatch q⟩
    · exact ⟨ob1, g1, fun _ q => by rw [f1] at q; cases q⟩
    · exact ⟨ob2, g2, fun _ q => by rw [f2] at q; cases q⟩
  keep := fun i h h' st k => by
    obtain ⟨z, p1, ⟨x, y, p2⟩, c1, c2⟩ := st
    exact ⟨k _ (by simp) _ z, k _ (by simp) _ p1, ⟨x, y, k _ (by simp) _ p2⟩, c1.at fun _ => k _ (by simp) _, c2.at fun _ => k _ (by simp) _⟩
  item := by
    intro X eP ew eK hc i pins s σ H E I hf st hg
    cases eP; cases ew; cases eK
    obtain ⟨z, p1, p2, c1, c2⟩ := st
    obtain ⟨xs, ys, ⟨qx, qy⟩, x, y, hx, hy⟩ := hg
    obtain ⟨its, r1, t1, _⟩ := I.tuple qx
    obtain ⟨jts, r2, t2, _⟩ := I.list qy
    obtain ⟨vx, gx, rx⟩ := r1.get hx
    obtain ⟨vy, gy, ry⟩ := r2.get hy
    have olt : o < s.heap.objs.size := Heap.lt_size z
    refine zm_nextItem D ⟨z, p1, p2, c1, c2, t1, t2.isList⟩ (x := vx) (y := vy) (by simpa using gx) (by simpa using gy) fun h' z' p2' c1' c2' tp kp => ?_
    refine ⟨_, rfl, wpAny_letOwnedTupleGo_zip (s := { s with heap := h' }) z' fun h2 z2 sb => ?_⟩
    have tp2 := (sb.2 _ (Nat.ne_of_gt olt)).trans tp
    have ok : ObjOk X.prog X.w (upd H s.heap.objs.size (.tup [x, y])) h2 s.heap.objs.size (.tup [x, y]) := ⟨show 2 ≤ sizeLine by decide, [vx, vy], .cons rx (.cons ry .nil), ⟨_, tp2, rfl, _, rfl⟩⟩
    have kp2 : ∀ c ob, c ∉ [o, P1, P2, u, v] → s.heap.get? c = some ob → h2.get? c = some ob := fun c ob nc g => by
      simp only [List.mem_cons, List.not_mem_nil, or_false, not_or] at nc
      exact (sb.2 c nc.1).trans (kp c ob ⟨nc.1, nc.2.2.1, nc.2.2.2.1, nc.2.2.2.2⟩ g)
    have J := I.turnedNew (t' := s.toks) (ch := [o, P1, P2, u, v]) kp2 hf (Nat.le_refl _) ok
    refine ⟨.ref s.heap.objs.size, _, J, rfl, ⟨_, x, y, ⟨rfl, I.hok.fresh (Nat.le_refl _), rfl⟩, fun l hl => by rw [I.tuple_inj hl qx]; exact hx, fun l hl => by rw [I.list_inj hl qy]; exact hy⟩, ⟨z2, ?_, ⟨vx, vy, (sb.2 _ D.TOz).trans p2'⟩, c1'.at fun _ q => (sb.2 _ D.i1z).trans q, c2'.at fun _ q => (sb.2 _ D.i2z).trans q⟩, fun c hcm => ?_⟩
    · exact (sb.2 _ D.TIz).trans (kp _ _ ⟨D.TIz, D.TITO, D.TIi1, D.TIi2⟩ p1)
    · have lt : c < s.heap.objs.size := by
        obtain ⟨_, _, p2⟩ := p2
        obtain ⟨_, g1, _⟩ := c1
        obtain ⟨_, g2, _⟩ := c2
        simp only [List.mem_cons, List.not_mem_nil, or_false] at hcm
        rcases hcm with rfl | rfl | rfl | rfl | rfl
        · exact olt
        · exact Heap.lt_size p1
        · exact Heap.lt_size p2
        · exact Heap.lt_size g1
        · exact Heap.lt_size g2
      rw [upd_ne (Nat.ne_of_lt lt)]
      exact (hf c hcm).1
  done := by
    intro X eP ew eK hc i pins s σ H E I hf st hg
    cases eP; cases ew; cases eK
    obtain ⟨z, p1, p2, c1, c2⟩ := st
    obtain ⟨xs, ys, ⟨qx, qy⟩, fin⟩ := hg
    obtain ⟨its, r1, t1, _⟩ := I.tuple qx
    obtain ⟨jts, r2, t2, _⟩ := I.list qy
    have n1 := r1.length
    have n2 := r2.length
    have over : its.toArray[i]? = none ∨ jts.toArray[i]? = none := by
      simp only [List.getElem?_toArray, List.getElem?_eq_none_iff]
      omega
    refine zm_nextEnd (I.ok.hd hc) D ⟨z, p1, p2, c1, c2, t1, t2.isList⟩ over fun h' kp => ⟨rfl, I.turnedL (t' := s.toks) (ch := [o, P1, P2, u, v]) (fun c ob nc g => ?_) hf⟩
    simp only [List.mem_cons, List.not_mem_nil, or_false, not_or] at nc
    exact kp c ob ⟨nc.1, nc.2.2.1, nc.2.2.2.1, nc.2.2.2.2⟩ g
  self := fun A i s Q E st h => wpAny_pyIter_zip st.1 h
def iZipM (K : PySem.W.Frag) (ta : TA) : TI := fun σ H R => ta σ H fun vs H1 => ∃ a b xs ys, vs = [.ref a, .ref b] ∧ SqT K H1 a xs ∧ SqL K H1 b ys ∧ R (ItzM K a b) H1
/-- zip(t, l): a tuple, a list -/
theorem pi_zipM {X : Cx} {e e2 : Expr} {ta : TA} {p pos ps : Pos} {es : List Expr} {kk : Nat} (hg : Gl X "zip") (hm : X.mg "zip" = none) (ha : PA X [e, e2] ta)
    (hs : starEach [e, e2] X.env = (false, eval e X.env) :: starEach [e2] X.env := by rfl) (hpl : (backTo pos (starEach [e2] X.env)).any (·.1) = false := by rfl) : PI X (.Tuple es kk ps) (.Call (.Name "zip" p) [e, e2] [] pos) (iZipM X.K ta) := by
  constructor
  intro pins s σ H R I h
  refine Call_ (ld_blt I hg hm PyProof.Rows.boot_zip (PyProof.Rows.callWith_type1 (thn (ha.run pos pins s σ H _ I h) ?_) hs hpl))
  rintro us s1 ⟨vs, H1, I1, rv, a, b, xs, ys, rfl, qx, qy, q⟩
  obtain ⟨w1, w2, rfl, r1, r2⟩ := vals2 rv
  cases r1; cases r2
  obtain ⟨its, _, t1, _⟩ := I1.tuple qx
  obtain ⟨jts, _, t2, _⟩ := I1.list qy
  obtain ⟨o1, g1, _⟩ := id t1
  refine zm_call t1 t2.isList fun h' n en z p1 p2 c1 c2 kp => wpAny_pyIter_zip z ?_
  have J : Inv X pins σ H1 { s1 with heap := h' } := I1.kept (t' := s1.toks) kp
  subst en
  refine ⟨_, [s1.heap.objs.size + 4, s1.heap.objs.size + 2, s1.heap.objs.size + 3, s1.heap.objs.size, s1.heap.objs.size + 1], _, _, H1, rfl, J, zm_turn (PySem.W.ktu_apart s1.heap.objs.size a b (Heap.lt_size g1) t2.lt), ⟨z, p1, ⟨_, _, p2⟩, c1, c2⟩, fun c hc => ?_, q⟩
  have le : s1.heap.objs.size ≤ c := by
    simp only [List.mem_cons, List.not_mem_nil, or_false] at hc
    rcases hc with h | h | h | h | h <;> rw [h]
    iterate 3 exact Nat.le_add_right _ _
    · exact Nat.le_refl _
    · exact Nat.le_add_right _ _
  exact I1.fpOk le (I1.hok.fresh le)
theorem walk_zipM {K : PySem.W.Frag} {a b : Addr} {xs ys : List V} (hl : xs.length = ys.length) : Walk (ItzM K a b) xs.length (fun H => SqT K H a xs ∧ SqL K H b ys) (YPair (fun i => xs[i]?) (fun i => ys[i]?)) where
  goes := fun i H hi q => ⟨xs, ys, q, xs[i], ys[i]'(by omega), by simp [hi], by simp [hl ▸ hi]⟩
  stops := fun H q => ⟨xs, ys, q, .inl (Nat.le_refl _)⟩
  yields := fun i H v H' _ q y => by
    obtain ⟨c, x, z, ⟨h1, h2, h3⟩, h4, h5⟩ := y
    exact ⟨c, x, z, h1, h2, h3, h4 xs q.1, h5 ys q.2⟩
end G96

namespace K96
open PySem PySem.Spec PyProof.Rows L2 G96
local macro_rules | `(tactic| walk_at "rd") => `(tactic| simp only [tSeq, tIfS, tOr, tAnd, tNot, tB, tCB, tCons, tNil, tVar, tC, tTest, tChain, rI0, tRet, tOp, tCall, tAsg, gName, tNext, tDrop, tIf, tAndV, tOrV, tNotV, tIsN, tNotN, tM0, tM1, tSl, tPart, tNoPart, rSlS, rEq, rNe, scal_ss, scal_ii, scal_bb, LenV_s, rIsStr, isStr_s, isStr_n, isStr_b, isStr_i, rInt1, tTup, tLst, L2.start, List.map_cons, List.map_nil, List.length_cons, List.length_nil, List.replicate_succ, List.replicate_zero, List.cons_append, List.nil_append, List.append_nil, Nat.reduceAdd, Nat.reduceSub, Nat.sub_self, List.getElem?_cons_zero, List.getElem?_cons_succ, List.set_cons_zero, List.set_cons_succ, Option.some.injEq, exists_eq_left', exists_eq_left, and_assoc, exists_and_left, exists_eq', List.cons.injEq, true_and, and_true, V.int.injEq, V.str.injEq, V.bl.injEq, V.ref.injEq, reduceCtorEq, false_and, and_false, if_true, if_false, Bool.not_true, Bool.not_false, Bool.false_eq_true, ite_true, ite_false])
section
variable {P : Program} {w : World} {K : PySem.W.Frag} {mg : Str → Option Value} {base : Heap}
def letL : List Nat := ("abcdefghijklmnopqrstuvwxyz" : Str).cps.toList
def figL : List Nat := ("0123456789" : Str).cps.toList
def nameS (x : Str) : Bool := decide (1 ≤ x.length) && decide (x.length ≤ 8) && x.cps.toList.all fun c => decide (c ∈ letL)
def sp_is_name : Sp := fun vs H Q _ => ∃ x : Str, vs = [.str x] ∧ x.length ≤ 100000 ∧ ∀ H', Same H H' → Q (.bl (nameS x)) H'
theorem ok_is_name (Z : Tx K mg base) : OkC P w K mg base L2.CX0 1 "is_name" ["thing"] sp_is_name := by
  refine mk0_is_name Z sc_is_name (fun vs H Q E h => ?_) (fun cdv A outer s H vs Q E hr h => ?_)
  · obtain ⟨x, rfl, _⟩ := h
    rfl
  · obtain ⟨x, rfl, hx, hQ⟩ := h
    refine ⟨_, (pss_cons (ps_if (PW.pt (pw_or (pt_not (pt_val (pe_callB call_isStr (by rfl) Z.n_isinstance (by decide +kernel) (pa_cons (pv 0) (pa_cons (pe_bltn (v := .ty "str") rfl Z.n_str (by decide +kernel) rfl) pa_nil))))) (pw_or1 (pt_not (pt_chain op_le op_le pe_int (pe_callB call_len (by rfl) Z.n_len (by decide +kernel) (pa_cons (pv 0) pa_nil)) (pe_gInt Z.g_MOST_LETTERS rfl)))))) (pss_one (ps_ret pe_bl)) pss_nil)
    (pss_one (ps_ret (pe_callB (cr_all rfl) (by rfl) Z.n_all (by decide +kernel) (pa_cons (pe_lc (own := [("letter", 1)]) (g := gName 1) (tt := tYes) rfl sc_is_name.nd (pi_str (pv 0)) (blkOk_by (own := [("letter", 1)]) (N := ["thing", "letter"]) (sc := defScope s_is_name) (by decide +kernel)) (fun _ _ _ _ _ => (pg_name (i := 1) sc_is_name.nd rfl (Or.inl rfl))) (fun _ _ _ _ _ => pts_nil) (fun _ _ _ _ _ => (pe_cmpR op_in_sign (pv 1) (pe_gStr Z.g_LETTERS rfl) (by rfl)))) pa_nil))))), ?_⟩
    walk_at "rd"
    refine ⟨Nat.le_trans hx (by decide), ?_⟩
    have e1 : (decide ((1 : Int) ≤ (x.length : Int))) = decide (1 ≤ x.length) := by apply decide_eq_decide.mpr; omega
    have e2 : (decide ((x.length : Int) ≤ 8)) = decide (x.length ≤ 8) := by apply decide_eq_decide.mpr; omega
    rw [e1, e2]
    unfold nameS at hQ
    cases h1 : decide (1 ≤ x.length) with
    | false =>
      rw [h1] at hQ
      exact hQ H (Same.refl H)
    | true =>
      rw [h1] at hQ
      cases h2 : decide (x.length ≤ 8) with
      | false =>
        rw [h2] at hQ
        exact hQ H (Same.refl H)
      | true =>
        rw [h2] at hQ
        exact all_in (z := x) rfl (by simp) hx hQ
def digs (x : Str) : Str := if Txt.startswith x "-" = true then cutS x (some 1) none else x
def itextS (x : Str) : Bool := if digs x = "" ∨ (digs x).cps.toList.all (fun c => decide (c ∈ figL)) = false then false else decide (x = "0") || !Txt.startswith (digs x) "0"
def sp_itext : Sp := fun vs H Q _ => ∃ x : Str, vs = [.str x] ∧ x.length ≤ 100000 ∧ ∀ H', Same H H' → Q (.bl (itextS x)) H'
theorem ok_is_integer_text (Z : Tx K mg base) : OkC P w K mg base L2.CX0 1 "is_integer_text" ["text"] sp_itext := by
  refine mk0_is_integer_text Z sc_is_integer_text (fun vs H Q E h => ?_) (fun cdv A outer s H vs Q E hr h => ?_)
  · obtain ⟨x, rfl, _⟩ := h
    rfl
  · obtain ⟨x, rfl, hx, hQ⟩ := h
    refine ⟨_, (C8.pss_cut (ps_set (i := 1) sc_is_integer_text.nd rfl (Or.inl rfl) (pe_ifExp (pt_val (pe_m1 PySem.F.slot_str_startswith PySem.F.type_str_startswith mt_startswith (pv 0) pe_str)) (pe_slice sl_str (pv 0) (po_some pe_int) po_none) (pv 0)))
    (pss_cons (ps_if (PW.pt (pw_or (pt_cmpR op_eq (pv 1) pe_str (nomark _)) (pw_or1 (pt_not (pt_val (pe_callB (cr_all rfl) (by rfl) Z.n_all (by decide +kernel) (pa_cons (pe_lc (own := [("sign", 2)]) (g := gName 2) (tt := tYes) rfl sc_is_integer_text.nd (pi_str (pv 1)) (blkOk_by (own := [("sign", 2)]) (N := ["text", "digits", "sign"]) (sc := defScope s_is_integer_text) (by decide +kernel)) (fun _ _ _ _ _ => (pg_name (i := 2) sc_is_integer_text.nd rfl (Or.inl rfl))) (fun _ _ _ _ _ => pts_nil) (fun _ _ _ _ _ => (pe_cmpR op_in_sign (pv 2) (pe_gStr Z.g_FIGURES rfl) (by rfl)))) pa_nil))))))) (pss_one (ps_ret pe_bl)) pss_nil)
    (pss_one (ps_ret (pe_or (pe_cmpR op_eq (pv 0) pe_str (nomark _)) (pe_one (pe_not (pe_m1 PySem.F.slot_str_startswith PySem.F.type_str_startswith mt_startswith (pv 1) pe_str)))))))), ?_⟩
    have hd : (digs x).length ≤ 100000 := by
      unfold digs
      split
      · exact Nat.le_trans (cutS_length _ _ _) hx
      · exact hx
    refine ⟨fun σ' H' => σ' = [some (.str x), some (.str (digs x)), none] ∧ H' = H, ?_, ?_⟩
    · walk_at "rd"
      unfold digs
      cases Txt.startswith x "-" with
      | true => exact ⟨Nat.le_trans hx (by decide), rfl⟩
      | false => exact rfl
    · rintro σ' H' ⟨rfl, rfl⟩
      walk_at "rd"
      unfold itextS at hQ
      by_cases h0 : digs x = ""
      · rw [if_pos (.inl h0)] at hQ
        rw [if_pos (decide_eq_true h0)]
        exact hQ _ (Same.refl _)
      · rw [if_neg (by simpa using h0)]
        refine all_in (z := digs x) rfl (by simp) hd fun H2 s2 => ?_
        refine ⟨_, rfl, ?_⟩
        cases ha : (digs x).cps.toList.all (fun c => decide (c ∈ figL)) with
        | false =>
          rw [if_pos (.inr ha)] at hQ
          have ha' : ((digs x).cps.toList.all fun c => decide (c ∈ (Str.ofString "0123456789").cps.toList)) = false := ha
          rw [ha']
          exact hQ _ s2
        | true =>
          rw [if_neg (by rintro (z | z) <;> simp_all)] at hQ
          have ha' : ((digs x).cps.toList.all fun c => decide (c ∈ (Str.ofString "0123456789").cps.toList)) = true := ha
          rw [ha']
          cases h3 : decide (x = Str.ofString "0") with
          | true =>
            rw [h3] at hQ
            exact hQ _ s2
          | false =>
            rw [h3] at hQ
            exact hQ _ s2
def countS (x : Str) : Bool := itextS x && !Txt.startswith x "-"
def sp_count : Sp := fun vs H Q _ => ∃ x : Str, vs = [.str x] ∧ x.length ≤ 100000 ∧ ∀ H', Same H H' → Q (.bl (countS x)) H'
theorem ok_is_count_text (Z : Tx K mg base) : OkC P w K mg base L2.CX0 2 "is_count_text" ["text"] sp_count := by
  refine mk0_is_count_text Z sc_is_count_text (fun vs H Q E h => ?_) (fun cdv A outer s H vs Q E hr h => ?_)
  · obtain ⟨x, rfl, _⟩ := h
    rfl
  · obtain ⟨x, rfl, hx, hQ⟩ := h
    refine ⟨_, (pss_one (ps_ret (pe_and (pe_c (ok_is_integer_text Z) hr (by decide) rfl pass0 (pa_cons (pv 0) pa_nil)) (pe_one (pe_not (pe_m1 PySem.F.slot_str_startswith PySem.F.type_str_startswith mt_startswith (pv 0) pe_str)))))), ?_⟩
    walk_at "rd"
    refine ⟨x, rfl, hx, fun H2 s2 => ⟨_, rfl, ?_⟩⟩
    unfold countS at hQ
    cases h1 : itextS x with
    | false =>
      rw [h1] at hQ
      exact hQ _ s2
    | true =>
      rw [h1] at hQ
      exact hQ _ s2
end
end K96

namespace K96
open PySem PySem.Spec PyProof.Rows L2 G96 TL
/-! numbers as texts -/
theorem starts_one {x : Str} {c : Nat} : Txt.startswith x ⟨#[c]⟩ = decide ((tl x).head? = some c) := by
  have q := PySem.StrLaws.subAt_one x c 0
  have e : Txt.startswith x ⟨#[c]⟩ = (decide (0 + (⟨#[c]⟩ : Str).length ≤ x.length) && PySem.Builtin.Str.subAt x ⟨#[c]⟩ 0) := rfl
  rw [e, List.head?_eq_getElem?]
  by_cases h : (tl x)[0]? = some c
  · rw [decide_eq_true h, Bool.and_eq_true]
    have r := q.mpr h
    exact ⟨decide_eq_true r.1, r.2⟩
  · rw [decide_eq_false h]
    cases hz : (decide (0 + (⟨#[c]⟩ : Str).length ≤ x.length) && PySem.Builtin.Str.subAt x ⟨#[c]⟩ 0) with
    | false => rfl
    | true =>
      rw [Bool.and_eq_true] at hz
      exact absurd (q.mp ⟨of_decide_eq_true hz.1, hz.2⟩) h
theorem s_minus : Str.ofString "-" = ⟨#[45]⟩ := by decide +kernel
theorem s_zero : Str.ofString "0" = ⟨#[48]⟩ := by decide +kernel
theorem s_quote : Str.ofString "\"" = ⟨#[34]⟩ := by decide +kernel
theorem cut_tail (x : Str) : tl (cutS x (some 1) none) = (tl x).tail := by
  have hx := len_tl x
  have e : tl (cutS x (some 1) none) = ((tl x).drop (HT.sIx x.length 0 (some ((1 : Nat) : Int)))).take (x.length - HT.sIx x.length 0 (some ((1 : Nat) : Int))) := tl_cut' x _ _
  rw [e, HT.sIx_nat]
  cases h : tl x with
  | nil => simp
  | cons c r =>
    rw [h, List.length_cons] at hx
    rw [show min 1 x.length = 1 by omega]
    show List.take (x.length - 1) r = r
    rw [List.take_of_length_le (by omega)]
theorem fig_iff (c : Nat) : decide (c ∈ figL) = true ↔ 48 ≤ c ∧ c ≤ 57 := by
  rw [decide_eq_true_eq]
  have e : figL = [48, 49, 50, 51, 52, 53, 54, 55, 56, 57] := by decide +kernel
  rw [e]
  simp only [List.mem_cons, List.not_mem_nil, or_false]
  omega
theorem let_iff (c : Nat) : decide (c ∈ letL) = true ↔ 97 ≤ c ∧ c ≤ 122 := by
  rw [decide_eq_true_eq]
  have e : letL = [97, 98, 99, 100, 101, 102, 103, 104, 105, 106, 107, 108, 109, 110, 111, 112, 113, 114, 115, 116, 117, 118, 119, 120, 121, 122] := by decide +kernel
  rw [e]
  simp only [List.mem_cons, List.not_mem_nil, or_false]
  omega
/-- a count's signs -/
def CountL (cs : List Nat) : Prop := cs ≠ [] ∧ NumText.AllDigits cs ∧ (cs = [48] ∨ cs.head? ≠ some 48)
theorem digs_tl (x : Str) : tl (digs x) = if (tl x).head? = some 45 then (tl x).tail else tl x := by
  unfold digs
  rw [s_minus, starts_one]
  by_cases h : (tl x).head? = some 45
  · rw [if_pos h, if_pos (decide_eq_true h), cut_tail]
  · rw [if_neg h, if_neg (by rw [decide_eq_true_eq]; exact h)]
theorem all_fig {cs : List Nat} : cs.all (fun c => decide (c ∈ figL)) = true ↔ NumText.AllDigits cs := by
  rw [List.all_eq_true]
  exact ⟨fun h c hc => (fig_iff c).mp (h c hc), fun h c hc => (fig_iff c).mpr (h c hc)⟩
theorem eq_empty {x : Str} : x = "" ↔ tl x = [] := ⟨fun h => by rw [h]; rfl, fun h => ext_tl (by rw [h]; rfl)⟩
theorem eq_zero {x : Str} : x = "0" ↔ tl x = [48] := ⟨fun h => by rw [h, show ("0" : Str) = ⟨#[48]⟩ from s_zero], fun h => ext_tl (by rw [h, show ("0" : Str) = ⟨#[48]⟩ from s_zero])⟩
theorem itext_iff {x : Str} : itextS x = true ↔ CountL (tl x) ∨ ∃ ds, tl x = 45 :: ds ∧ NumText.AllDigits ds ∧ ds ≠ [] ∧ ds.head? ≠ some 48 := by
  unfold itextS
  have e0 : Txt.startswith (digs x) "0" = decide ((tl (digs x)).head? = some 48) := by
    rw [show ("0" : Str) = ⟨#[48]⟩ from s_zero]
    exact starts_one
  have ed : digs x = "" ↔ tl (digs x) = [] := eq_empty
  have ea : ((digs x).cps.toList.all fun c => decide (c ∈ figL)) = false ↔ ¬ NumText.AllDigits (tl (digs x)) := by
    rw [← Bool.not_eq_true]
    exact not_congr all_fig
  rw [e0]
  have key : (if digs x = "" ∨ ((digs x).cps.toList.all fun c => decide (c ∈ figL)) = false then false else decide (x = "0") || !decide ((tl (digs x)).head? = some 48)) = true ↔ tl (digs x) ≠ [] ∧ NumText.AllDigits (tl (digs x)) ∧ (tl x = [48] ∨ (tl (digs x)).head? ≠ some 48) := by
    by_cases h1 : digs x = "" ∨ ((digs x).cps.toList.all fun c => decide (c ∈ figL)) = false
    · rw [if_pos h1]
      refine ⟨(fun z => by cases z), fun z => ?_⟩
      rcases h1 with h | h
      · exact absurd (ed.mp h) z.1
      · exact absurd z.2.1 (ea.mp h)
    · rw [if_neg h1, Bool.or_eq_true, decide_eq_true_eq, Bool.not_eq_true', decide_eq_false_iff_not, eq_zero]
      have h2 : tl (digs x) ≠ [] := fun z => h1 (.inl (ed.mpr z))
      have h3 : NumText.AllDigits (tl (digs x)) := Classical.byContradiction fun z => h1 (.inr (ea.mpr z))
      exact ⟨fun z => ⟨h2, h3, z⟩, fun z => z.2.2⟩
  rw [key, digs_tl]
  by_cases hm : (tl x).head? = some 45
  · rw [if_pos hm]
    obtain ⟨ds, hds⟩ : ∃ ds, tl x = 45 :: ds := by
      cases h : tl x with
      | nil => rw [h] at hm; cases hm
      | cons c r => rw [h] at hm; cases hm; exact ⟨r, rfl⟩
    rw [hds]
    show ds ≠ [] ∧ NumText.AllDigits ds ∧ ((45 :: ds = [48]) ∨ ds.head? ≠ some 48) ↔ _
    constructor
    · rintro ⟨h1, h2, h3 | h3⟩
      · cases h3
      · exact .inr ⟨ds, rfl, h2, h1, h3⟩
    · rintro (⟨_, h2, _⟩ | ⟨es, e, h2, h3, h4⟩)
      · exact absurd (h2 45 List.mem_cons_self) (by omega)
      · cases e
        exact ⟨h3, h2, .inr h4⟩
  · rw [if_neg hm]
    constructor
    · rintro ⟨h1, h2, h3⟩
      exact .inl ⟨h1, h2, h3⟩
    · rintro (⟨h1, h2, h3⟩ | ⟨es, e, _⟩)
      · exact ⟨h1, h2, h3⟩
      · rw [e] at hm
        exact absurd rfl hm
theorem count_iff {x : Str} : countS x = true ↔ CountL (tl x) := by
  unfold countS
  rw [Bool.and_eq_true, itext_iff, show ("-" : Str) = ⟨#[45]⟩ from s_minus, starts_one, Bool.not_eq_true', decide_eq_false_iff_not]
  constructor
  · rintro ⟨h | ⟨ds, e, _⟩, hm⟩
    · exact h
    · rw [e] at hm
      exact absurd rfl hm
  · intro h
    refine ⟨.inl h, fun z => ?_⟩
    cases hx : tl x with
    | nil => rw [hx] at z; cases z
    | cons c r =>
      rw [hx] at z h
      cases z
      exact absurd (h.2.1 45 List.mem_cons_self) (by omega)
/-- canonical -/
theorem num_of_count : ∀ (n : Nat) (cs : List Nat), cs.length = n → CountL cs → cs = numL (NumText.digitsVal cs) ∧ (cs.head? ≠ some 48 → 0 < NumText.digitsVal cs)
  | 0, cs, hn, h => absurd (List.length_eq_zero_iff.mp hn) h.1
  | n + 1, cs, hn, h => by
    obtain ⟨ini, d, rfl⟩ : ∃ ini d, cs = ini ++ [d] := ⟨cs.dropLast, cs.getLast h.1, (List.dropLast_concat_getLast h.1).symm⟩
    have hd := h.2.1 d (List.mem_append_right _ (List.mem_singleton.mpr rfl))
    have hv : NumText.digitsVal (ini ++ [d]) = NumText.digitsVal ini * 10 + (d - 48) := by
      unfold NumText.digitsVal
      rw [List.foldl_append]
      rfl
    cases hi : ini with
    | nil =>
      rw [hi] at hv
      have hv : NumText.digitsVal ([] ++ [d]) = d - 48 := by
        rw [hv]
        show 0 * 10 + (d - 48) = _
        omega
      rw [hv, numL_lt (by omega), show 48 + (d - 48) = d by omega]
      refine ⟨rfl, fun z => ?_⟩
      have : d ≠ 48 := fun e => z (by rw [e]; rfl)
      omega
    | cons c r =>
      have hne : ini ≠ [] := by rw [hi]; exact List.cons_ne_nil _ _
      have hh : (ini ++ [d]).head? = ini.head? := by rw [hi]; rfl
      have h48 : ini.head? ≠ some 48 := by
        rcases h.2.2 with e | e
        · have l := congrArg List.length e
          rw [List.length_append, List.length_singleton, List.length_singleton, hi, List.length_cons] at l
          omega
        · rw [hh] at e
          exact e
      have hc : CountL ini := ⟨hne, fun x hx => h.2.1 x (List.mem_append_left _ hx), .inr h48⟩
      obtain ⟨q1, q2⟩ := num_of_count n ini (by rw [List.length_append, List.length_singleton] at hn; omega) hc
      have q2 := q2 h48
      rw [← hi, hv]
      have h10 : 10 ≤ NumText.digitsVal ini * 10 + (d - 48) := by omega
      rw [numL_step h10, show (NumText.digitsVal ini * 10 + (d - 48)) / 10 = NumText.digitsVal ini by omega, show 48 + (NumText.digitsVal ini * 10 + (d - 48)) % 10 = d by omega, ← q1]
      exact ⟨rfl, fun _ => by omega⟩
theorem numL_head {n : Nat} (h : 0 < n) : (numL n).head? ≠ some 48 := by
  induction n using Nat.strongRecOn with
  | _ n ih =>
    by_cases h10 : n < 10
    · rw [numL_lt h10]
      intro z
      have z : some (48 + n) = some 48 := z
      have := Option.some.inj z
      omega
    · rw [numL_step (by omega)]
      have q := ih (n / 10) (by omega) (by omega)
      have ne := numL_ne (n / 10)
      cases e : numL (n / 10) with
      | nil => exact absurd e ne
      | cons c r =>
        rw [e] at q
        exact q
theorem numL_count (n : Nat) : CountL (numL n) := by
  refine ⟨numL_ne n, numL_digits n, ?_⟩
  by_cases h : n = 0
  · rw [h]
    exact .inl (by rw [numL_lt (by omega)])
  · exact .inr (numL_head (by omega))
end K96
namespace K96
open PySem PySem.Spec PyProof.Rows L2 G96 TL
theorem tl_int (i : Int) : tl (Str.ofString (toString i)) = if i < 0 then 45 :: numL i.natAbs else numL i.natAbs := by
  cases i with
  | ofNat n =>
    rw [if_neg (show ¬ (Int.ofNat n < 0) by exact fun z => by have : (0 : Int) ≤ Int.ofNat n := Int.natCast_nonneg n; omega)]
    exact tl_num n
  | negSucc m =>
    rw [if_pos (Int.negSucc_lt_zero m)]
    have e : toString (Int.negSucc m) = "-" ++ toString ((m + 1 : Nat) : Int) := rfl
    rw [e, tl_ofString, String.toList_append, List.map_append, ← tl_ofString (toString ((m + 1 : Nat) : Int)), tl_num]
    rfl
theorem lt_of_log {n k : Nat} (h : n.log2 < k) : n < 2 ^ k := by
  by_cases h0 : n = 0
  · rw [h0]
    exact Nat.two_pow_pos k
  · exact (Nat.log2_lt h0).mp h
theorem numL_len600 {n : Nat} (h : n.log2 < 1920) : (numL n).length ≤ 600 := by
  refine numL_len (by decide) (Nat.lt_of_lt_of_le (lt_of_log h) ?_)
  decide +kernel
theorem num_len {n : Int} (h : n.natAbs.log2 < 1920) : (Str.ofString (toString n)).length ≤ 2000 := by
  have q := numL_len600 h
  rw [len_tl, tl_int]
  split
  · rw [List.length_cons]
    omega
  · omega
def intV (x : Str) : Int := (PySem.intText? x).getD 0
theorem count_val {x : Str} (h : CountL (tl x)) (hl : x.length ≤ 640) : PySem.intText? x = some ((NumText.digitsVal (tl x) : Nat) : Int) := PySem.intText_digits h.2.1 h.1 (by omega)
theorem neg_val {x : Str} {ds : List Nat} (e : tl x = 45 :: ds) (h : NumText.AllDigits ds) (hn : ds ≠ []) (hl : x.length ≤ 640) : PySem.intText? x = some (-((NumText.digitsVal ds : Nat) : Int)) := PySem.intText_neg e h hn (by omega)
theorem itext_int {x : Str} (h : itextS x = true) (hl : x.length ≤ 640) : PySem.intText? x = some (intV x) := by
  unfold intV
  rcases itext_iff.mp h with h | ⟨ds, e, h1, h2, h3⟩
  · rw [count_val h hl]
    rfl
  · rw [neg_val e h1 h2 hl]
    rfl
end K96

namespace K96
open PySem PySem.Spec PyProof.Rows L2 G96 TL
local macro_rules | `(tactic| walk_at "rd") => `(tactic| simp only [tSeq, tIfS, tOr, tAnd, tNot, tB, tCB, tCons, tNil, tVar, tC, tTest, tChain, rI0, tRet, tOp, tCall, tAsg, gName, tNext, tDrop, tIf, tAndV, tOrV, tNotV, tIsN, tNotN, tM0, tM1, tSl, tPart, tNoPart, rSlS, rEq, rNe, scal_ss, scal_ii, scal_bb, LenV_s, rIsStr, isStr_s, isStr_n, isStr_b, isStr_i, rInt1, tTup, tLst, tFmt, tUn, L2.start, List.map_cons, List.map_nil, List.length_cons, List.length_nil, List.replicate_succ, List.replicate_zero, List.cons_append, List.nil_append, List.append_nil, Nat.reduceAdd, Nat.reduceSub, Nat.sub_self, List.getElem?_cons_zero, List.getElem?_cons_succ, List.set_cons_zero, List.set_cons_succ, Option.some.injEq, exists_eq_left', exists_eq_left, and_assoc, exists_and_left, exists_eq', List.cons.injEq, true_and, and_true, V.int.injEq, V.str.injEq, V.bl.injEq, V.ref.injEq, reduceCtorEq, false_and, and_false, exists_false, or_false, false_or, if_true, if_false, Bool.not_true, Bool.not_false, Bool.false_eq_true, ite_true, ite_false, decide_true, decide_false, eq_self, tJs, rU])
section
variable {P : Program} {w : World} {K : PySem.W.Frag} {mg : Str → Option Value} {base : Heap}
def readN (x : Str) : Option Int := if itextS x = true ∧ x.length ≤ 14 ∧ (intV x).natAbs ≤ 1000000000000 then some (intV x) else none
def sp_read_number (C : Addr) : Sp := fun vs H Q E => ∃ x : Str, vs = [.str x] ∧ x.length ≤ 100000 ∧ (∀ n H', Same H H' → readN x = some n → Q (.int n) H') ∧ (∀ H', Same H H' → readN x = none → E (.ref C) none H')
theorem ok_read_number (Z : Tx K mg base) : OkC P w K mg base (L2.CX P w) 2 "read_number" ["text"] (sp_read_number (cIT K)) := by
  refine mkX_read_number Z sc_read_number (fun vs H Q E h => ?_) (fun cdv A outer s H vs Q E hr h => ?_)
  · obtain ⟨x, rfl, _⟩ := h
    rfl
  · obtain ⟨x, rfl, hx, hQ, hE⟩ := h
    refine ⟨_, (pss_cons (ps_if (PW.pt (pw_or (pt_not (pt_val (pe_c (ok_is_integer_text Z) hr (by decide) rfl pass0 (pa_cons (pv 0) pa_nil)))) (pw_or (pt_cmpR op_gt (pe_callB call_len (by rfl) Z.n_len (by decide +kernel) (pa_cons (pv 0) pa_nil)) (pe_gInt Z.g_LONGEST rfl) (nomark _)) (pw_or1 (pt_cmpR op_gt (pe_callB call_abs (by rfl) Z.n_abs (by decide +kernel) (pa_cons (pe_callTy call_int_str (by rfl) Z.n_int (by decide +kernel) (pa_cons (pv 0) pa_nil)) pa_nil)) (pe_gInt Z.g_RANGE rfl) (nomark _)))))) (pss_one (ps_raise rfl (takes_of rfl rfl rfl rfl) (pmk_own0 PySem.F.excBase_Exception Z.exc Z.m_InvalidText Z.k_InvalidText (raises_own Z.sub Z.typ) rfl))) pss_nil)
    (pss_one (ps_ret (pe_callTy call_int_str (by rfl) Z.n_int (by decide +kernel) (pa_cons (pv 0) pa_nil))))), ?_⟩
    walk_at "rd"
    refine ⟨x, rfl, hx, fun H2 s2 => ⟨_, rfl, ?_⟩⟩
    cases h1 : itextS x with
    | false =>
      have e : readN x = none := if_neg (fun z => by rw [h1] at z; cases z.1)
      exact hE _ s2 e
    | true =>
      walk_at "rd"
      refine ⟨Nat.le_trans hx (by decide), ?_⟩
      by_cases h2 : x.length ≤ 14
      · have e2 : decide ((14 : Int) < (x.length : Int)) = false := decide_eq_false (by omega)
        rw [e2]
        have ei := itext_int h1 (by omega)
        refine ⟨_, ei, by omega, ?_⟩
        have ab : (if intV x < 0 then -intV x else intV x) = ((intV x).natAbs : Int) := by split <;> omega
        rw [ab]
        by_cases h3 : (intV x).natAbs ≤ 1000000000000
        · have e3 : decide ((1000000000000 : Int) < ((intV x).natAbs : Int)) = false := decide_eq_false (by omega)
          rw [e3]
          exact ⟨_, ei, by omega, hQ _ _ s2 (if_pos ⟨h1, h2, h3⟩)⟩
        · have e3 : decide ((1000000000000 : Int) < ((intV x).natAbs : Int)) = true := decide_eq_true (by omega)
          have e : readN x = none := if_neg (fun z => h3 z.2.2)
          rw [e3]
          exact hE _ s2 e
      · have e2 : decide ((14 : Int) < (x.length : Int)) = true := decide_eq_true (by omega)
        have e : readN x = none := if_neg (fun z => h2 z.2.1)
        rw [e2]
        exact hE _ s2 e
theorem app_len (x y : Str) : (x ++ y).length = x.length + y.length := by
  rw [len_tl, len_tl, len_tl, tl_append, List.length_append]
theorem empty_app (x : Str) : Str.empty ++ x = x := ext_tl (by rw [tl_append]; rfl)
theorem len_lit : (Str.ofString "\"").length = 1 := by decide +kernel
def Sc.Ok : Sc → Prop
  | .non => True
  | .int i => i.natAbs ≤ 1000000000000
  | .str x => x.length ≤ 8
def showC : Sc → Str
  | .non => "nothing"
  | .int i => toString i
  | .str x => "\"" ++ x ++ "\""
theorem log_small {i : Int} (h : i.natAbs ≤ 1000000000000) : i.natAbs.log2 < 1920 := by
  by_cases h0 : i.natAbs = 0
  · rw [h0]
    decide
  · exact Nat.lt_of_lt_of_le ((Nat.log2_lt h0).mpr (Nat.lt_of_le_of_lt h (by decide : 1000000000000 < 2 ^ 50))) (by decide)
def sp_show_value : Sp := fun vs H Q _ => ∃ c : Sc, vs = [c.v] ∧ Sc.Ok c ∧ Q (.str (showC c)) H
theorem ok_show_value (Z : Tx K mg base) : OkC P w K mg base L2.CX0 1 "show_value" ["value"] sp_show_value := by
  refine mk0_show_value Z sc_show_value (fun vs H Q E h => ?_) (fun cdv A outer s H vs Q E hr h => ?_)
  · obtain ⟨x, rfl, _⟩ := h
    rfl
  · obtain ⟨c, rfl, hc, hQ⟩ := h
    refine ⟨_, (pss_cons (ps_if (pt_cmp (pc_isN (pv 0)) rfl) (pss_one (ps_ret (pe_gStr Z.g_NOTHING rfl))) pss_nil)
    (pss_one (ps_ret (pe_ifExp (pt_val (pe_callB call_isStr (by rfl) Z.n_isinstance (by decide +kernel) (pa_cons (pv 0) (pa_cons (pe_bltn (v := .ty "str") rfl Z.n_str (by decide +kernel) rfl) pa_nil)))) (pe_joined (PJ.cons pe_str (PJ.cons (pe_fmt (pv 0)) (PJ.cons pe_str PJ.nil)))) (pe_callTy call_str_int (by rfl) Z.n_str (by decide +kernel) (pa_cons (pv 0) pa_nil)))))), ?_⟩
    cases c with
    | non =>
      simp only [Sc.v]
      walk_at "rd"
      exact hQ
    | int i =>
      simp only [Sc.v]
      walk_at "rd"
      exact ⟨log_small hc, hQ⟩
    | str x =>
      simp only [Sc.v]
      walk_at "rd"
      have hl : x.length ≤ 8 := hc
      have z : (8 : Nat) + 2 ≤ sizeLine := by decide
      simp only [empty_app, app_len, len_lit]
      exact ⟨by omega, by omega, by omega, by omega, hQ⟩
def sp_must (C : Addr) : Sp := fun vs H Q E => ∃ b : Bool, vs = [.bl b] ∧ (b = true → Q .non H) ∧ (b = false → E (.ref C) none H)
theorem must_t {C : Addr} {H : Hp} {Q : VK} {E : XK} : sp_must C [.bl true] H Q E = Q .non H := by
  apply propext
  constructor
  · rintro ⟨b, e, h, _⟩
    cases e
    exact h rfl
  · exact fun q => ⟨true, rfl, fun _ => q, fun z => by cases z⟩
theorem must_f {C : Addr} {H : Hp} {Q : VK} {E : XK} : sp_must C [.bl false] H Q E = E (.ref C) none H := by
  apply propext
  constructor
  · rintro ⟨b, e, _, h⟩
    cases e
    exact h rfl
  · exact fun q => ⟨false, rfl, fun z => (by cases z), fun _ => q⟩
theorem ok_must (Z : Tx K mg base) : OkC P w K mg base (L2.CX P w) 1 "must" ["good"] (sp_must (cIT K)) := by
  refine mkX_must Z sc_must (fun vs H Q E h => ?_) (fun cdv A outer s H vs Q E hr h => ?_)
  · obtain ⟨x, rfl, _⟩ := h
    rfl
  · obtain ⟨b, rfl, h1, h2⟩ := h
    refine ⟨_, (pss_one (ps_if (pt_not (pt_val (pv 0))) (pss_one (ps_raise rfl (takes_of rfl rfl rfl rfl) (pmk_own0 PySem.F.excBase_Exception Z.exc Z.m_InvalidText Z.k_InvalidText (raises_own Z.sub Z.typ) rfl))) pss_nil)), ?_⟩
    walk_at "rd"
    cases b with
    | true => exact h1 rfl
    | false => exact h2 rfl
def readV (x : Str) : Option Sc :=
  if x = "nothing" then some .non
  else if 1 < x.length ∧ Txt.startswith x "\"" = true ∧ Txt.endswith x "\"" = true then (if nameS (cutS x (some 1) (some (-1))) = true then some (.str (cutS x (some 1) (some (-1)))) else none)
  else (readN x).map .int
def sp_read_value (C : Addr) : Sp := fun vs H Q E => ∃ x : Str, vs = [.str x] ∧ x.length ≤ 100000 ∧ (∀ c H', Same H H' → readV x = some c → Q c.v H') ∧ (∀ H', Same H H' → readV x = none → E (.ref C) none H')
theorem ok_read_value (Z : Tx K mg base) : OkC P w K mg base (L2.CX P w) 3 "read_value" ["text"] (sp_read_value (cIT K)) := by
  refine mkX_read_value Z sc_read_value (fun vs H Q E h => ?_) (fun cdv A outer s H vs Q E hr h => ?_)
  · obtain ⟨x, rfl, _⟩ := h
    rfl
  · obtain ⟨x, rfl, hx, hQ, hE⟩ := h
    refine ⟨_, (pss_cons (ps_if (pt_cmpR op_eq (pv 0) (pe_gStr Z.g_NOTHING rfl) (nomark _)) (pss_one (ps_ret pe_non)) pss_nil)
    (pss_cons (ps_if (PW.pt (pw_and (pt_cmpR op_gt (pe_callB call_len (by rfl) Z.n_len (by decide +kernel) (pa_cons (pv 0) pa_nil)) pe_int (nomark _)) (pw_and (pt_val (pe_m1 PySem.F.slot_str_startswith PySem.F.type_str_startswith mt_startswith (pv 0) pe_str)) (pw_and1 (pt_val (pe_m1 PySem.F.slot_str_endswith PySem.F.type_str_endswith mt_endswith (pv 0) pe_str)))))) (pss_cons (ps_if (pt_not (pt_val (pe_c (ok_is_name Z) hr (by decide) rfl pass0 (pa_cons (pe_slice sl_str (pv 0) (po_some pe_int) (po_some (pe_un un_neg pe_int))) pa_nil)))) (pss_one (ps_raise rfl (takes_of rfl rfl rfl rfl) (pmk_own0 PySem.F.excBase_Exception Z.exc Z.m_InvalidText Z.k_InvalidText (raises_own Z.sub Z.typ) rfl))) pss_nil)
    (pss_one (ps_ret (pe_slice sl_str (pv 0) (po_some pe_int) (po_some (pe_un un_neg pe_int)))))) pss_nil)
    (pss_one (ps_ret (pe_c (ok_read_number Z) hr (by decide) rfl (passes_call (takes_of rfl rfl rfl rfl) (fun _ _ _ _ h => h)) (pa_cons (pv 0) pa_nil)))))), ?_⟩
    walk_at "rd"
    unfold readV at hQ hE
    by_cases h0 : x = Str.ofString "nothing"
    · rw [if_pos (decide_eq_true h0)]
      exact hQ .non H (Same.refl H) (if_pos h0)
    rw [if_neg (by simpa using h0)]
    rw [if_neg h0] at hQ hE
    refine ⟨Nat.le_trans hx (by decide), ?_⟩
    have num : ¬ (1 < x.length ∧ Txt.startswith x "\"" = true ∧ Txt.endswith x "\"" = true) → sp_read_number (cIT K) [V.str x] H Q E := fun h => by
      rw [if_neg h] at hQ hE
      exact ⟨x, rfl, hx, fun n H' s' e => hQ (.int n) H' s' (by rw [e]; rfl), fun H' s' e => hE H' s' (by rw [e]; rfl)⟩
    by_cases h1 : 1 < x.length
    · rw [if_pos (decide_eq_true (by omega))]
      cases h2 : Txt.startswith x (Str.ofString "\"") with
      | false => exact num (fun z => by have q := z.2.1; rw [h2] at q; cases q)
      | true =>
        cases h3 : Txt.endswith x (Str.ofString "\"") with
        | false => exact num (fun z => by have q := z.2.2; rw [h3] at q; cases q)
        | true =>
          rw [if_pos ⟨h1, h2, h3⟩] at hQ hE
          refine ⟨Nat.le_trans hx (by decide), _, rfl, Nat.le_trans (cutS_length _ _ _) hx, fun H2 s2 => ⟨_, rfl, ?_⟩⟩
          cases h4 : nameS (cutS x (some 1) (some (-1))) with
          | false => exact hE H2 s2 (if_neg (by rw [h4]; decide))
          | true => exact ⟨Nat.le_trans hx (by decide), hQ (.str _) H2 s2 (if_pos h4)⟩
    · rw [if_neg (by rw [decide_eq_true_eq]; omega)]
      exact num (fun z => h1 z.1)
end
end K96

namespace K96
open PySem PySem.Spec PyProof.Rows L2 G96 TL
local macro_rules | `(tactic| walk_at "rd") => `(tactic| simp only [tSeq, tIfS, tOr, tAnd, tNot, tB, tCB, tCons, tNil, tVar, tC, tTest, tChain, rI0, tRet, tOp, tCall, tAsg, gName, tNext, tDrop, tIf, tAndV, tOrV, tNotV, tIsN, tNotN, tM0, tM1, tSl, tPart, tNoPart, rSlS, rEq, rNe, scal_ss, scal_ii, scal_bb, LenV_s, rIsStr, isStr_s, isStr_n, isStr_b, isStr_i, rInt1, tTup, tLst, tFmt, tUn, L2.start, List.map_cons, List.map_nil, List.length_cons, List.length_nil, List.replicate_succ, List.replicate_zero, List.cons_append, List.nil_append, List.append_nil, Nat.reduceAdd, Nat.reduceSub, Nat.sub_self, List.getElem?_cons_zero, List.getElem?_cons_succ, List.set_cons_zero, List.set_cons_succ, Option.some.injEq, exists_eq_left', exists_eq_left, and_assoc, exists_and_left, exists_eq', List.cons.injEq, true_and, and_true, V.int.injEq, V.str.injEq, V.bl.injEq, V.ref.injEq, reduceCtorEq, false_and, and_false, exists_false, or_false, false_or, if_true, if_false, Bool.not_true, Bool.not_false, Bool.false_eq_true, ite_true, ite_false, decide_true, decide_false, eq_self, tJs, rU, gTup, gNil, gCons, StX.tStar, cx_K])
section
variable {P : Program} {w : World} {K : PySem.W.Frag} {mg : Str → Option Value} {base : Heap}
theorem showC_len {c : Sc} (h : Sc.Ok c) : (showC c).length ≤ 2000 := by
  cases c with
  | non => exact show (Str.ofString "nothing").length ≤ 2000 by decide +kernel
  | int i => exact num_len (log_small h)
  | str x =>
    have hl : x.length ≤ 8 := h
    have e1 : (Str.ofString "\"").length = 1 := by decide +kernel
    show (Str.ofString "\"" ++ x ++ Str.ofString "\"").length ≤ 2000
    rw [app_len, app_len, e1]
    omega
def Deed.Ok : Deed → Prop
  | .put t vs => t.length ≤ 8 ∧ vs.length ≤ 5000 ∧ ∀ c ∈ vs, Sc.Ok c
  | .take t n => t.length ≤ 8 ∧ n.natAbs.log2 < 1920
def showD : Deed → Str
  | .put t vs => Txt.join " " ("put" :: t :: vs.map showC)
  | .take t n => Txt.join " " ["take", t, toString n]
def sp_show_deed : Sp := fun vs H Q _ => ∃ v d, vs = [v] ∧ TD H v (Deed.d d) ∧ Deed.Ok d ∧ ∀ H', Same H H' → Q (.str (showD d)) H'
theorem ok_show_deed (Z : Tx K mg base) : OkC P w K mg base L2.CX0 2 "show_deed" ["deed"] sp_show_deed := by
  refine mk0_show_deed Z sc_show_deed (fun vs H Q E h => ?_) (fun cdv A outer s H vs Q E hr h => ?_)
  · obtain ⟨x, _, rfl, _⟩ := h
    rfl
  · obtain ⟨v, d, rfl, hd, ho, hQ⟩ := h
    refine ⟨_, (pss_cons (ps_asg (pv 0) (pg_tup (by rfl) (pgs_cons (pg_name (i := 2) sc_show_deed.nd rfl (Or.inl rfl)) (pgs_cons (pg_name (i := 3) sc_show_deed.nd rfl (Or.inl rfl)) (pgs_cons (pg_name (i := 4) sc_show_deed.nd rfl (Or.inl rfl)) pgs_nil)))))
    (C8.pss_cut (ps_set (i := 1) sc_show_deed.nd rfl (Or.inl rfl) (pe_ifExp (pt_cmpR op_eq (pv 2) (pe_gStr Z.g_PUT rfl) (nomark _)) (pe_lc (own := [("value", 5)]) (g := gName 5) (tt := tYes) rfl sc_show_deed.nd (pi_tup (pv 4)) (blkOk_by (own := [("value", 5)]) (N := ["deed", "words", "word", "table", "what", "value"]) (sc := defScope s_show_deed) (by decide +kernel)) (fun _ _ _ _ _ => (pg_name (i := 5) sc_show_deed.nd rfl (Or.inl rfl))) (fun _ _ _ _ _ => pts_nil) (fun _ _ _ _ _ => (pe_c (ok_show_value Z) hr (by decide) rfl pass0 (pa_cons (pv 5) pa_nil)))) (pe_lst (pa_cons (pe_callTy call_str_int (by rfl) Z.n_str (by decide +kernel) (pa_cons (pv 4) pa_nil)) pa_nil))))
    (pss_one (ps_ret (pe_m1 PySem.F.slot_str_join PySem.F.type_str_join mt_joinF (pe_gStr Z.g_BLANK rfl) (pe_lst (pa_cons (pv 2) (pa_cons (pv 3) (StX.pa_star (pv 1) pa_nil))))))))), ?_⟩
    have join : ∀ (l : Addr) (ws : List Str) (x1 x2 : Str) (o1 o2 o3 : Option V) (H1 : Hp), Same H H1 → H1 l = some (.lst (ws.map V.str)) → x1.length ≤ 8 → x2.length ≤ 8 → ws.length ≤ 5000 → (∀ y ∈ ws, y.length ≤ 2000) → showD d = Txt.join " " (x1 :: x2 :: ws) →
        (tRet (tM1 (rJoin K)
          (tC (.str (Str.ofString " "))) (tLst (tCons (tVar 2) (tCons (tVar 3) (StX.tStar K (tVar 1) tNil))))) : TS) { nx := fun _ H' => Q .non H', rt := Q } [o1, some (.ref l), some (.str x1), some (.str x2), o2, o3] H1 := by
      intro l ws x1 x2 o1 o2 o3 H1 s1 hl z1 z2 z3 z4 es
      walk_at "rd"
      refine ⟨ws.map V.str, .inr (.of hl), ?_, fun p hp => ?_⟩
      · rw [List.length_map]
        exact Nat.le_trans (by omega : ws.length + 1 + 1 ≤ 6000) (by decide)
      · refine ⟨_, p, x1 :: x2 :: ws, rfl, rfl, .of (by rw [upd_same]; rfl), ?_, ?_⟩
        · have hsum : ∀ l : List Str, (∀ y ∈ l, y.length ≤ 2000) → (l.map fun x => x.length).sum ≤ 2000 * l.length := by
            intro l hl
            induction l with
            | nil => exact Nat.zero_le _
            | cons y r ih =>
              have h1 := hl y List.mem_cons_self
              have h2 := ih fun z hz => hl z (List.mem_cons_of_mem _ hz)
              rw [List.map_cons, List.sum_cons, List.length_cons]
              omega
          have q := hsum ws z4
          have e1 : (Str.ofString " ").length = 1 := by decide +kernel
          simp only [List.map_cons, List.sum_cons, List.length_cons, e1]
          omega
        · rw [← es]
          exact hQ _ (sameNew s1 hp)
    cases d with
    | put t vs =>
      obtain ⟨a, b, rfl, h1, h2⟩ := Deed.of_put hd
      obtain ⟨o1, o2, o3⟩ := ho
      walk_at "rd"
      refine ⟨_, SqT.of h1, rfl, ?_⟩
      walk_at "rd"
      refine ⟨fun σ' H' => ∃ l, σ' = [some (.ref a), some (.ref l), some (.str "put"), some (.str t), some (.ref b), none] ∧ Same H H' ∧ H' l = some (.lst ((vs.map showC).map V.str)), ?_, ?_⟩
      · walk_at "rd"
        refine ⟨_, rfl, b, rfl, ⟨_, SqT.of h2⟩, fun D hD => lc_mapA (fun c => .str (showC c)) (walk_tup (xs := vs.map Sc.v)) hD (Nat.le_trans o2 (by decide)) (fun H' s' => .of (s' _ _ h2)) (fun c hc H1 Kt s1 ht => ?_) (fun H' s' e => ?_)⟩
        · exact ⟨rfl, _, rfl, c, rfl, o3 c hc, ht _ (Same.refl _)⟩
        · exact ⟨D, rfl, s', by rw [e, List.map_map]; rfl⟩
      · rintro σ' H' ⟨l, rfl, s', hl⟩
        refine join l (vs.map showC) "put" t _ _ _ H' s' hl (by decide +kernel) o1 (by rw [List.length_map]; exact o2) (fun y hy => ?_) rfl
        obtain ⟨c, hc, rfl⟩ := List.mem_map.mp hy
        exact showC_len (o3 c hc)
    | take t n =>
      obtain ⟨a, rfl, h1⟩ := Deed.of_take hd
      obtain ⟨o1, o2⟩ := ho
      walk_at "rd"
      refine ⟨_, SqT.of h1, rfl, ?_⟩
      walk_at "rd"
      refine ⟨fun σ' H' => ∃ l, σ' = [some (.ref a), some (.ref l), some (.str "take"), some (.str t), some (.int n), none] ∧ Same H H' ∧ H' l = some (.lst (([toString n] : List Str).map V.str)), ?_, ?_⟩
      · walk_at "rd"
        rw [if_neg (by decide +kernel)]
        exact ⟨o2, by decide, fun p hp => ⟨same_new hp, upd_same⟩⟩
      · rintro σ' H' ⟨l, rfl, s', hl⟩
        refine join l [toString n] "take" t _ _ _ H' s' hl (by decide +kernel) o1 (by simp) (fun y hy => ?_) rfl
        obtain rfl : y = toString n := by simpa using hy
        exact num_len o2
end
end K96

namespace K96
open PySem PySem.Spec PyProof.Rows L2 G96 TL
local macro_rules | `(tactic| walk_at "rd") => `(tactic| simp only [tSeq, tIfS, tOr, tAnd, tNot, tB, tCB, tCons, tNil, tVar, tC, tTest, tChain, rI0, tRet, tOp, tCall, tAsg, gName, tNext, tDrop, tIf, tAndV, tOrV, tNotV, tIsN, tNotN, tM0, tM1, tSl, tPart, tNoPart, rSlS, rEq, rNe, scal_ss, scal_ii, scal_bb, LenV_s, rIsStr, isStr_s, isStr_n, isStr_b, isStr_i, rInt1, tTup, tLst, tFmt, tUn, L2.start, List.map_cons, List.map_nil, List.length_cons, List.length_nil, List.replicate_succ, List.replicate_zero, List.cons_append, List.nil_append, List.append_nil, Nat.reduceAdd, Nat.reduceSub, Nat.sub_self, List.getElem?_cons_zero, List.getElem?_cons_succ, List.set_cons_zero, List.set_cons_succ, Option.some.injEq, exists_eq_left', exists_eq_left, and_assoc, exists_and_left, exists_eq', List.cons.injEq, true_and, and_true, V.int.injEq, V.str.injEq, V.bl.injEq, V.ref.injEq, reduceCtorEq, false_and, and_false, exists_false, or_false, false_or, if_true, if_false, Bool.not_true, Bool.not_false, Bool.false_eq_true, ite_true, ite_false, decide_true, decide_false, eq_self, tJs, rU, gTup, gNil, gCons, StX.tStar, cx_K, must_t, must_f, rNewStrs])
section
variable {P : Program} {w : World} {K : PySem.W.Frag} {mg : Str → Option Value} {base : Heap}
/-- a line whose words are not too long -/
def LineOk (x : Str) : Prop := x.length ≤ 5000 ∧ ∀ y ∈ Txt.split x " ", y.length ≤ 600
def wordAt (ws : List Str) (i : Nat) : Str := (ws[i]?).getD Str.empty
def readD (x : Str) : Option Deed :=
  let ws := Txt.split x " "
  if 2 < ws.length ∧ nameS (wordAt ws 1) = true then
    if wordAt ws 0 = "put" then (mapO readV (ws.drop 2)).map (Deed.put (wordAt ws 1))
    else if wordAt ws 0 = "take" ∧ ws.length = 3 ∧ countS (wordAt ws 2) = true then some (.take (wordAt ws 1) (intV (wordAt ws 2))) else none
  else none
def NoText (H : Hp) (v : V) : Prop := isStr v H fun b => b = false
def sp_read_deed (C : Addr) : Sp := fun vs H Q E => ∃ v, vs = [v] ∧ ((∃ x : Str, v = .str x ∧ LineOk x ∧ (∀ d v' H', readD x = some d → Same H H' → TD H' v' (Deed.d d) → Q v' H') ∧ (∀ H', Same H H' → readD x = none → E (.ref C) none H')) ∨ (NoText H v ∧ E (.ref C) none H))
theorem cut_from {ws : List Str} {k : Nat} (h : k ≤ ws.length) : cutV (ws.map V.str) (some (k : Int)) none = (ws.drop k).map V.str := by
  have e : HT.sIx ws.length 0 (some (k : Int)) = k := by rw [HT.sIx_nat]; omega
  rw [cut_map, e]
  show ((ws.drop k).take (ws.length - k)).map V.str = _
  rw [List.take_of_length_le (by rw [List.length_drop]; exact Nat.le_refl _)]
theorem at_ws {ws : List Str} {i : Nat} (h : i < ws.length) : atI (ws.map V.str) (i : Nat) = some (.str (wordAt ws i)) := by
  rw [atI_nat (xs := ws.map V.str) (v := .str (wordAt ws i))]
  rw [List.getElem?_map, List.getElem?_eq_getElem h]
  unfold wordAt
  rw [List.getElem?_eq_getElem h]
  rfl
theorem ok_read_deed (Z : Tx K mg base) : OkC P w K mg base (L2.CX P w) 4 "read_deed" ["thing"] (sp_read_deed (cIT K)) := by
  refine mkX_read_deed Z sc_read_deed (fun vs H Q E h => ?_) (fun cdv A outer s H vs Q E hr h => ?_)
  · obtain ⟨x, rfl, _⟩ := h
    rfl
  · obtain ⟨v, rfl, h⟩ := h
    refine ⟨_, (pss_cons (ps_expr (pe_c (ok_must Z) hr (by decide) rfl (passes_call (takes_of rfl rfl rfl rfl) (fun _ _ _ _ h => h)) (pa_cons (pe_callB call_isStr (by rfl) Z.n_isinstance (by decide +kernel) (pa_cons (pv 0) (pa_cons (pe_bltn (v := .ty "str") rfl Z.n_str (by decide +kernel) rfl) pa_nil))) pa_nil)))
    (pss_cons (ps_set (i := 1) sc_read_deed.nd rfl (Or.inl rfl) (pe_m1 PySem.F.slot_str_split PySem.F.type_str_split mt_splitF (pv 0) (pe_gStr Z.g_BLANK rfl)))
    (pss_cons (ps_expr (pe_c (ok_must Z) hr (by decide) rfl (passes_call (takes_of rfl rfl rfl rfl) (fun _ _ _ _ h => h)) (pa_cons (pe_and (pe_cmpR op_gt (pe_callB call_len (by rfl) Z.n_len (by decide +kernel) (pa_cons (pv 1) pa_nil)) pe_int (nomark _)) (pe_one (pe_c (ok_is_name Z) hr (by decide) rfl pass0 (pa_cons (pe_ix ix_list (pv 1) pe_int (fun _ _ => rfl)) pa_nil)))) pa_nil)))
    (pss_cons (ps_if (pt_cmpR op_eq (pe_ix ix_list (pv 1) pe_int (fun _ _ => rfl)) (pe_gStr Z.g_PUT rfl) (nomark _)) (pss_one (ps_ret (pe_tup (pa_cons (pe_gStr Z.g_PUT rfl) (pa_cons (pe_ix ix_list (pv 1) pe_int (fun _ _ => rfl)) (pa_cons (pe_callTy call_tuple_of (by rfl) Z.n_tuple (by decide +kernel) (pa_cons (pe_lcX (own := [("word", 2)]) (g := gName 2) (tt := tYes) rfl rfl (takes_of rfl rfl rfl rfl) (fun _ _ _ _ h => h) rfl sc_read_deed.nd (pi_list (pe_slice sl_list (pv 1) (po_some pe_int) po_none)) (blkOk_by (own := [("word", 2)]) (N := ["thing", "words", "word"]) (sc := defScope s_read_deed) (by decide +kernel)) (fun _ _ _ _ _ => (pg_name (i := 2) sc_read_deed.nd rfl (Or.inl rfl))) (fun _ _ _ _ _ => pts_nil) (fun _ _ _ _ _ => (pe_c (ok_read_value Z) hr (by decide) rfl passB (pa_cons (pv 2) pa_nil)))) pa_nil)) pa_nil)))))) pss_nil)
    (pss_cons (ps_expr (pe_c (ok_must Z) hr (by decide) rfl (passes_call (takes_of rfl rfl rfl rfl) (fun _ _ _ _ h => h)) (pa_cons (pe_and (pe_cmpR op_eq (pe_ix ix_list (pv 1) pe_int (fun _ _ => rfl)) (pe_gStr Z.g_TAKE rfl) (nomark _)) (pe_and (pe_cmpR op_eq (pe_callB call_len (by rfl) Z.n_len (by decide +kernel) (pa_cons (pv 1) pa_nil)) pe_int (nomark _)) (pe_one (pe_c (ok_is_count_text Z) hr (by decide) rfl pass0 (pa_cons (pe_ix ix_list (pv 1) pe_int (fun _ _ => rfl)) pa_nil))))) pa_nil)))
    (pss_one (ps_ret (pe_tup (pa_cons (pe_gStr Z.g_TAKE rfl) (pa_cons (pe_ix ix_list (pv 1) pe_int (fun _ _ => rfl)) (pa_cons (pe_callTy call_int_str (by rfl) Z.n_int (by decide +kernel) (pa_cons (pe_ix ix_list (pv 1) pe_int (fun _ _ => rfl)) pa_nil)) pa_nil))))))))))), ?_⟩
    rcases h with ⟨x, rfl, hx, hQ, hE⟩ | ⟨hn, hE⟩
    · walk_at "rd"
      have z5 : (5002 : Nat) ≤ sizeLine := by decide
      have hl5 := hx.1
      refine ⟨x, Str.ofString " ", rfl, rfl, by decide +kernel, by omega, fun p hp => ?_⟩
      generalize hws : Txt.split x (Str.ofString " ") = ws
      have hwl : ws.length ≤ 5002 := by
        have q := split_len x (Str.ofString " ")
        rw [hws] at q
        omega
      have hlong : ∀ y ∈ ws, y.length ≤ 600 := fun y hy => hx.2 y (by rw [show Txt.split x " " = ws from hws]; exact hy)
      have hw : ∀ i, (wordAt ws i).length ≤ 600 := fun i => by
        unfold wordAt
        by_cases hi : i < ws.length
        · rw [List.getElem?_eq_getElem hi]
          exact hlong _ (List.getElem_mem hi)
        · rw [List.getElem?_eq_none (by omega)]
          exact Nat.zero_le _
      have s1 : Same H (upd H p (.lst (ws.map V.str))) := same_new hp
      have hL : upd H p (.lst (ws.map V.str)) p = some (.lst (ws.map V.str)) := upd_same
      generalize upd H p (.lst (ws.map V.str)) = H1 at s1 hL
      have er : readD x = if 2 < ws.length ∧ nameS (wordAt ws 1) = true then (if wordAt ws 0 = "put" then (mapO readV (ws.drop 2)).map (Deed.put (wordAt ws 1))
          else if wordAt ws 0 = "take" ∧ ws.length = 3 ∧ countS (wordAt ws 2) = true then some (.take (wordAt ws 1) (intV (wordAt ws 2))) else none) else none := by
        unfold readD
        rw [show Txt.split x " " = ws from hws]
      rw [er] at hQ hE
      refine ⟨_, LenV_l (.of hL), ?_⟩
      rw [List.length_map]
      by_cases h2 : 2 < ws.length
      · rw [if_pos (decide_eq_true (by omega))]
        refine ⟨p, _, 1, _, rfl, rfl, .of hL, at_ws (i := 1) (by omega), _, rfl, Nat.le_trans (hw 1) (by decide), fun H2 s2 => ?_⟩
        cases h3 : nameS (wordAt ws 1) with
        | false =>
          rw [must_f]
          exact hE H2 (s1.trans s2) (if_neg (fun z => by rw [h3] at z; cases z.2))
        | true =>
          rw [must_t]
          rw [if_pos ⟨h2, h3⟩] at hQ hE
          have hL2 := s2 _ _ hL
          have s12 := s1.trans s2
          refine ⟨p, _, 0, _, rfl, rfl, .of hL2, at_ws (i := 0) (by omega), scal_ss, ?_⟩
          by_cases h4 : wordAt ws 0 = "put"
          · rw [if_pos (decide_eq_true (by rw [h4]))]
            rw [if_pos h4] at hQ hE
            refine ⟨p, _, 1, _, rfl, rfl, .of hL2, at_ws (i := 1) (by omega), ?_⟩
            have ec : cutV (ws.map V.str) (some 2) none = (ws.drop 2).map V.str := cut_from (k := 2) (by omega)
            refine ⟨_, rfl, _, rfl, p, _, rfl, .of hL2, fun q hq => ⟨q, rfl, ⟨_, .of upd_same⟩, fun D hD => ?_⟩⟩
            rw [ec] at hD ⊢
            refine lc_mapS readV (l := ws.drop 2) walk_list hD (by rw [List.length_drop]; omega) (fun H' s' => .of (s' _ _ upd_same)) (fun i y hy H3 Kt s3 ht => ?_) (fun cs H' s' e hm => ?_)
            · have hy2 : y ∈ ws := List.mem_of_mem_drop (List.mem_of_getElem? hy)
              exact ⟨rfl, _, rfl, y, rfl, Nat.le_trans (hlong y hy2) (by decide), fun c H4 s4 hc => ht c H4 s4 hc, fun H4 s4 hc => hE H4 (((sameNew s12 hq).trans s3).trans s4) (by rw [mapO_none hy hc]; rfl)⟩
            · refine ⟨D, rfl, cs.map Sc.v, .inl ⟨.of e, fun l hl => ⟨by decide, fun r hr => ?_⟩⟩⟩
              have nlr : l ≠ r := ne_of_none upd_same hr
              exact hQ (.put (wordAt ws 1) cs) (.ref r) _ (by rw [hm]; rfl) (sameNew (sameNew ((sameNew s12 hq).trans s') hl) hr) (Deed.mk_put upd_same (by rw [upd_ne nlr]; exact upd_same))
          · rw [if_neg (by rw [decide_eq_true_eq]; exact fun z => h4 (V.str.inj z))]
            rw [if_neg h4] at hQ hE
            refine ⟨p, _, 0, _, rfl, rfl, .of hL2, at_ws (i := 0) (by omega), scal_ss, ?_⟩
            by_cases h5 : wordAt ws 0 = "take"
            · rw [if_pos (decide_eq_true (by rw [h5]))]
              refine ⟨_, LenV_l (.of hL2), ?_⟩
              rw [List.length_map]
              by_cases h6 : ws.length = 3
              · rw [if_pos (decide_eq_true (by omega))]
                refine ⟨p, _, 2, _, rfl, rfl, .of hL2, at_ws (i := 2) (by omega), _, rfl, Nat.le_trans (hw 2) (by decide), fun H3 s3 => ?_⟩
                cases h7 : countS (wordAt ws 2) with
                | false =>
                  rw [must_f]
                  exact hE H3 (s12.trans s3) (if_neg (fun z => by have q := z.2.2; rw [h7] at q; cases q))
                | true =>
                  rw [must_t]
                  rw [if_pos ⟨h5, h6, h7⟩] at hQ
                  have hL3 := s3 _ _ hL2
                  have hit : itextS (wordAt ws 2) = true := by
                    unfold countS at h7
                    exact (Bool.and_eq_true_iff.mp h7).1
                  refine ⟨p, _, 1, _, rfl, rfl, .of hL3, at_ws (i := 1) (by omega), p, _, 2, _, rfl, rfl, .of hL3, at_ws (i := 2) (by omega), _, rfl, _, itext_int hit (Nat.le_trans (hw 2) (by decide)), Nat.le_trans (hw 2) (by decide), by decide, fun r hr => ?_⟩
                  exact hQ (.take (wordAt ws 1) _) (.ref r) _ rfl (sameNew (s12.trans s3) hr) (Deed.mk_take upd_same)
              · rw [if_neg (by rw [decide_eq_true_eq]; omega)]
                exact hE H2 s12 (if_neg (fun z => h6 z.2.1))
            · rw [if_neg (by rw [decide_eq_true_eq]; exact fun z => h5 (V.str.inj z))]
              exact hE H2 s12 (if_neg (fun z => h5 z.1))
      · rw [if_neg (by rw [decide_eq_true_eq]; omega)]
        exact hE H1 s1 (if_neg (fun z => h2 z.1))
    · walk_at "rd"
      exact isStr_imp hn (by rw [must_f]; exact hE)
/-- a text all of whose lines are so -/
def TextOk (x : Str) : Prop := x.length ≤ 5000 ∧ LineOk x ∧ ∀ y ∈ Txt.split x "\n", LineOk y
def readB (x : Str) : Option (List Deed) := if x = "" then some [] else mapO readD (Txt.split x "\n")
def bdata (ds : List Deed) : PyData := .tuple (ds.map Deed.d)
def sp_read_batch (C : Addr) : Sp := fun vs H Q E => ∃ v, vs = [v] ∧ ((∃ x : Str, v = .str x ∧ TextOk x ∧ (∀ d v' H', readB x = some d → Same H H' → TD H' v' (bdata d) → Q v' H') ∧ (∀ H', Same H H' → readB x = none → E (.ref C) none H')) ∨ (NoText H v ∧ E (.ref C) none H))
theorem ok_read_batch (Z : Tx K mg base) : OkC P w K mg base (L2.CX P w) 5 "read_batch" ["thing"] (sp_read_batch (cIT K)) := by
  refine mkX_read_batch Z sc_read_batch (fun vs H Q E h => ?_) (fun cdv A outer s H vs Q E hr h => ?_)
  · obtain ⟨x, rfl, _⟩ := h
    rfl
  · obtain ⟨v, rfl, h⟩ := h
    refine ⟨_, (pss_cons (ps_expr (pe_c (ok_must Z) hr (by decide) rfl (passes_call (takes_of rfl rfl rfl rfl) (fun _ _ _ _ h => h)) (pa_cons (pe_callB call_isStr (by rfl) Z.n_isinstance (by decide +kernel) (pa_cons (pv 0) (pa_cons (pe_bltn (v := .ty "str") rfl Z.n_str (by decide +kernel) rfl) pa_nil))) pa_nil)))
    (pss_one (ps_ret (pe_ifExp (pt_cmpR op_ne (pv 0) pe_str (nomark _)) (pe_callTy call_tuple_of (by rfl) Z.n_tuple (by decide +kernel) (pa_cons (pe_lcX (own := [("line", 1)]) (g := gName 1) (tt := tYes) rfl rfl (takes_of rfl rfl rfl rfl) (fun _ _ _ _ h => h) rfl sc_read_batch.nd (pi_list (pe_m1 PySem.F.slot_str_split PySem.F.type_str_split mt_splitF (pv 0) (pe_gStr Z.g_BREAK rfl))) (blkOk_by (own := [("line", 1)]) (N := ["thing", "line"]) (sc := defScope s_read_batch) (by decide +kernel)) (fun _ _ _ _ _ => (pg_name (i := 1) sc_read_batch.nd rfl (Or.inl rfl))) (fun _ _ _ _ _ => pts_nil) (fun _ _ _ _ _ => (pe_c (ok_read_deed Z) hr (by decide) rfl passB (pa_cons (pv 1) pa_nil)))) pa_nil)) (pe_tup pa_nil))))), ?_⟩
    rcases h with ⟨x, rfl, hx, hQ, hE⟩ | ⟨hn, hE⟩
    · walk_at "rd"
      have z5 : (5002 : Nat) ≤ sizeLine := by decide
      have hl5 := hx.1
      by_cases h0 : x = ""
      · rw [if_neg (by rw [h0]; decide)]
        have er : readB x = some [] := if_pos h0
        exact ⟨Nat.zero_le _, fun p hp => hQ [] _ _ er (same_new hp) (.tup upd_same .nil)⟩
      · have er : readB x = mapO readD (Txt.split x "\n") := if_neg h0
        rw [er] at hQ hE
        rw [if_pos (by simpa using h0)]
        refine ⟨_, rfl, ⟨_, rfl⟩, x, "\n", rfl, rfl, by decide +kernel, by omega, fun p hp => ⟨p, rfl, ⟨_, .of upd_same⟩, fun D hD => ?_⟩⟩
        have hlen := split_len x (Str.ofString "\n")
        refine lc_mapT readD Deed.d (l := Txt.split x "\n") walk_list hD (by exact Nat.le_trans hlen (by omega)) (fun H' s' => .of (s' _ _ upd_same)) (fun i y hy H3 Kt s3 ht => ?_) (fun acc bs H' s' e t hm => ?_)
        · exact ⟨rfl, _, rfl, _, rfl, .inl ⟨y, rfl, hx.2.2 y (List.mem_of_getElem? hy), fun d v' H4 hd s4 t4 => ht d v' H4 s4 hd t4, fun H4 s4 hn => hE H4 (((same_new hp).trans s3).trans s4) (mapO_none hy hn)⟩⟩
        · refine ⟨D, rfl, acc, .inl ⟨.of e, fun l hl => ?_⟩⟩
          exact hQ bs (.ref l) _ hm (sameNew ((same_new hp).trans s') hl) (.tup upd_same (t.mono (tupsOf (same_new hl))))
    · walk_at "rd"
      exact isStr_imp hn (by rw [must_f]; exact hE)
def showB (ds : List Deed) : Str := Txt.join "\n" (ds.map showD)
def sp_show_batch : Sp := fun vs H Q _ => ∃ v ds, vs = [v] ∧ TD H v (bdata ds) ∧ (∀ d ∈ ds, Deed.Ok d) ∧ ((ds.map showD).map (·.length)).sum + ds.length ≤ 100000 ∧ ∀ H', Same H H' → Q (.str (showB ds)) H'
theorem ok_show_batch (Z : Tx K mg base) : OkC P w K mg base L2.CX0 3 "show_batch" ["batch"] sp_show_batch := by
  refine mk0_show_batch Z sc_show_batch (fun vs H Q E h => ?_) (fun cdv A outer s H vs Q E hr h => ?_)
  · obtain ⟨x, _, rfl, _⟩ := h
    rfl
  · obtain ⟨v, ds, rfl, hd, ho, hsz, hQ⟩ := h
    refine ⟨_, (pss_one (ps_ret (pe_m1 PySem.F.slot_str_join PySem.F.type_str_join mt_joinF (pe_gStr Z.g_BREAK rfl) (pe_lc (own := [("deed", 1)]) (g := gName 1) (tt := tYes) rfl sc_show_batch.nd (pi_tup (pv 0)) (blkOk_by (own := [("deed", 1)]) (N := ["batch", "deed"]) (sc := defScope s_show_batch) (by decide +kernel)) (fun _ _ _ _ _ => (pg_name (i := 1) sc_show_batch.nd rfl (Or.inl rfl))) (fun _ _ _ _ _ => pts_nil) (fun _ _ _ _ _ => (pe_c (ok_show_deed Z) hr (by decide) rfl pass0 (pa_cons (pv 1) pa_nil))))))), ?_⟩
    cases hd with
    | tup e t =>
      rename_i a xs
      refine ⟨⟨_, rfl⟩, _, rfl, a, rfl, ⟨_, .of e⟩, fun D hD => ?_⟩
      have hdl : ds.length ≤ 100000 := by omega
      have hxl : xs.length = ds.length := by rw [t.length, List.length_map]
      refine lc_grow walk_tup hD (by rw [hxl]; exact Nat.le_trans hdl (by decide)) (fun i acc _ => acc = (ds.take i).map fun d => V.str (showD d)) rfl (fun _ _ _ _ e _ _ => e) (fun H' s' => .of (s' _ _ e)) (fun i x H1 H1' acc Kt Kf hi sm _ ea hy ht _ => ?_) (fun acc H' sm e' p => ?_)
      · obtain ⟨rfl, hx⟩ := hy
        obtain ⟨dd, hdd, td⟩ := t.get hx
        rw [List.getElem?_map] at hdd
        cases q : ds[i]? with
        | none =>
          rw [q] at hdd
          cases hdd
        | some d =>
          rw [q] at hdd
          cases hdd
          refine ⟨rfl, _, rfl, x, d, rfl, td.mono (tupsOf sm), ho d (List.mem_of_getElem? q), fun H4 s4 => ht _ H4 s4 ?_⟩
          rw [ea, List.take_add_one, q, List.map_append]
          rfl
      · rw [p, hxl, List.take_length] at e'
        refine ⟨_, D, ds.map showD, rfl, rfl, .of (by rw [List.map_map]; exact e'), ?_, hQ H' sm⟩
        have e1 : (Str.ofString "\n").length = 1 := by decide +kernel
        rw [e1, List.length_map]
        omega
end
end K96

namespace K96
open PySem PySem.Spec PyProof.Rows L2 G96 TL
theorem cut_head {x : Str} {c : Nat} : cutS x none (some 1) = ⟨#[c]⟩ ↔ (tl x).head? = some c := by
  have hx := len_tl x
  have e : tl (cutS x none (some 1)) = ((tl x).drop 0).take (HT.sIx x.length x.length (some ((1 : Nat) : Int)) - 0) := tl_cut' x _ _
  rw [HT.sIx_nat, List.drop_zero, Nat.sub_zero] at e
  have e2 : cutS x none (some 1) = ⟨#[c]⟩ ↔ (tl x).take (min 1 x.length) = [c] := by
    rw [← e]
    exact ⟨fun h => by rw [h], fun h => ext_tl h⟩
  rw [e2]
  cases h : tl x with
  | nil => simp
  | cons a r =>
    rw [h, List.length_cons] at hx
    rw [show min 1 x.length = 1 by omega]
    simp
theorem showD_take (t : Str) (n : Int) : Str.ofString "take " ++ t ++ Str.ofString " " ++ Str.ofString (toString n) = showD (.take t n) := by
  refine ext_tl ?_
  have e5 : tl (Str.ofString "take ") = tl (Str.ofString "take") ++ [32] := by decide +kernel
  show _ = tl (Txt.join (Str.ofString " ") [Str.ofString "take", t, Str.ofString (toString n)])
  rw [join_eq, tl_join, tl_blank, tl_append, tl_append, tl_append, e5, tl_blank]
  show _ = tl (Str.ofString "take") ++ ([32] ++ (tl t ++ ([32] ++ tl (Str.ofString (toString n)))))
  simp only [List.append_assoc]
end K96

namespace K96
open PySem PySem.Spec PyProof.Rows L2 G96 TL
local macro_rules | `(tactic| walk_at "rd") => `(tactic| simp only [tSeq, tIfS, tOr, tAnd, tNot, tB, tCB, tCons, tNil, tVar, tC, tTest, tChain, rI0, tRet, tOp, tCall, tAsg, gName, tNext, tDrop, tIf, tAndV, tOrV, tNotV, tIsN, tNotN, tM0, tM1, tSl, tPart, tNoPart, rSlS, rEq, rNe, scal_ss, scal_ii, scal_bb, LenV_s, rIsStr, isStr_s, isStr_n, isStr_b, isStr_i, rInt1, tTup, tLst, tFmt, tUn, L2.start, List.map_cons, List.map_nil, List.length_cons, List.length_nil, List.replicate_succ, List.replicate_zero, List.cons_append, List.nil_append, List.append_nil, Nat.reduceAdd, Nat.reduceSub, Nat.sub_self, List.getElem?_cons_zero, List.getElem?_cons_succ, List.set_cons_zero, List.set_cons_succ, Option.some.injEq, exists_eq_left', exists_eq_left, and_assoc, exists_and_left, exists_eq', List.cons.injEq, true_and, and_true, V.int.injEq, V.str.injEq, V.bl.injEq, V.ref.injEq, reduceCtorEq, false_and, and_false, exists_false, or_false, false_or, if_true, if_false, Bool.not_true, Bool.not_false, Bool.false_eq_true, ite_true, ite_false, decide_true, decide_false, eq_self, tJs, rU, gTup, gNil, gCons, StX.tStar, cx_K, must_t, must_f, rNewStrs, rI])
section
variable {P : Program} {w : World} {K : PySem.W.Frag} {mg : Str → Option Value} {base : Heap}
def lawName (x : Str) : Bool := decide (0 < x.length) && decide (x.length < 9) && x.cps.toList.all fun c => !!(!decide (([c] : List Nat) < ("a" : Str).cps.toList) && !decide (("z" : Str).cps.toList < [c]))
def sp_law_is_name : Sp := fun vs H Q _ => ∃ x : Str, vs = [.str x] ∧ x.length ≤ 100000 ∧ ∀ H', Same H H' → Q (.bl (lawName x)) H'
theorem ok_law_is_name (Z : Tx K mg base) : OkC P w K mg base L2.CX0 1 "_law_is_name" ["it"] sp_law_is_name := by
  refine mk0_law_is_name Z sc_law_is_name (fun vs H Q E h => ?_) (fun cdv A outer s H vs Q E hr h => ?_)
  · obtain ⟨x, rfl, _⟩ := h
    rfl
  · obtain ⟨x, rfl, hx, hQ⟩ := h
    have hu := hr.units
    refine ⟨_, (pss_one (ps_ret (pe_and (pe_chain op_lt op_lt pe_int (pe_callB call_len (by rfl) Z.n_len (by decide +kernel) (pa_cons (pv 0) pa_nil)) pe_int) (pe_one (pe_cmpR (op_eqNil hu) (pe_lc (own := [("sign", 1)]) (g := gName 1) rfl sc_law_is_name.nd (pi_str (pv 0)) (blkOk_by (own := [("sign", 1)]) (N := ["it", "sign"]) (sc := defScope s_law_is_name) (by decide +kernel)) (fun _ _ _ _ _ => (pg_name (i := 1) sc_law_is_name.nd rfl (Or.inl rfl))) (fun _ _ _ _ _ => (pts_one (pt_not (pt_chain op_le_str op_le_str pe_str (pv 1) pe_str)))) (fun _ _ _ _ _ => (pv 1))) (pe_lst pa_nil) (nomark _)))))), ?_⟩
    walk_at "rd"
    refine ⟨Nat.le_trans hx (by decide), ?_⟩
    have e1 : decide ((0 : Int) < (x.length : Int)) = decide (0 < x.length) := by apply decide_eq_decide.mpr; omega
    have e2 : decide ((x.length : Int) < 9) = decide (x.length < 9) := by apply decide_eq_decide.mpr; omega
    rw [e1, e2]
    unfold lawName at hQ
    cases h1 : decide (0 < x.length) with
    | false =>
      rw [h1] at hQ
      exact hQ H (Same.refl H)
    | true =>
      rw [h1] at hQ
      cases h2 : decide (x.length < 9) with
      | false =>
        rw [h2] at hQ
        exact hQ H (Same.refl H)
      | true =>
        rw [h2] at hQ
        exact none_passes (z := x) (p := fun c => !(!decide (([c] : List Nat) < ("a" : Str).cps.toList) && !decide (("z" : Str).cps.toList < [c]))) rfl (by simp) hx (fun c H1 R hR => by
          walk_at "rd"
          cases h4 : decide (([c] : List Nat) < (Str.ofString "a").cps.toList) with
          | true =>
            rw [h4] at hR
            exact hR
          | false =>
            rw [h4] at hR
            exact hR) hQ
def lawCount (x : Str) : Bool := decide (x = "0") || (!decide (x = "") && (!decide ((⟨#[x.cps.toList.headD 0]⟩ : Str) = "0") && x.cps.toList.all fun c => !!decide (c ∈ figL)))
def sp_law_is_count : Sp := fun vs H Q _ => ∃ x : Str, vs = [.str x] ∧ x.length ≤ 100000 ∧ ∀ H', Same H H' → Q (.bl (lawCount x)) H'
theorem ok_law_is_count (Z : Tx K mg base) : OkC P w K mg base L2.CX0 1 "_law_is_count" ["it"] sp_law_is_count := by
  refine mk0_law_is_count Z sc_law_is_count (fun vs H Q E h => ?_) (fun cdv A outer s H vs Q E hr h => ?_)
  · obtain ⟨x, rfl, _⟩ := h
    rfl
  · obtain ⟨x, rfl, hx, hQ⟩ := h
    have hu := hr.units
    refine ⟨_, (pss_one (ps_ret (pe_or (pe_cmpR op_eq (pv 0) pe_str (nomark _)) (pe_one (pe_and (pe_cmpR op_ne (pv 0) pe_str (nomark _)) (pe_and (pe_cmpR op_ne (pe_ix ix_str (pv 0) pe_int (fun _ _ => rfl)) pe_str (nomark _)) (pe_one (pe_cmpR (op_eqNil hu) (pe_lc (own := [("sign", 1)]) (g := gName 1) rfl sc_law_is_count.nd (pi_str (pv 0)) (blkOk_by (own := [("sign", 1)]) (N := ["it", "sign"]) (sc := defScope s_law_is_count) (by decide +kernel)) (fun _ _ _ _ _ => (pg_name (i := 1) sc_law_is_count.nd rfl (Or.inl rfl))) (fun _ _ _ _ _ => (pts_one (pt_cmpR op_notIn_sign (pv 1) pe_str (by rfl)))) (fun _ _ _ _ _ => (pv 1))) (pe_lst pa_nil) (nomark _))))))))), ?_⟩
    walk_at "rd"
    unfold lawCount at hQ
    cases h0 : decide (x = Str.ofString "0") with
    | true =>
      rw [h0] at hQ
      exact hQ H (Same.refl H)
    | false =>
      rw [h0] at hQ
      cases h1 : decide (x = Str.ofString "") with
      | true =>
        rw [h1] at hQ
        exact hQ H (Same.refl H)
      | false =>
        rw [h1] at hQ
        have hne : x.cps.toList ≠ [] := fun z => by
          have q : x = "" := ext_tl (by rw [show tl x = [] from z]; rfl)
          rw [q] at h1
          cases h1
        obtain ⟨c, r, hc⟩ : ∃ c r, x.cps.toList = c :: r := by
          cases h : x.cps.toList with
          | nil => exact absurd h hne
          | cons c r => exact ⟨c, r, rfl⟩
        refine ⟨x, 0, c, rfl, rfl, Nat.le_trans hx (by decide), atI_nat (xs := x.cps.toList) (j := 0) (by rw [hc]; rfl), scal_ss, ?_⟩
        have eh : x.cps.toList.headD 0 = c := by rw [hc]; rfl
        rw [eh] at hQ
        cases h2 : decide ((⟨#[c]⟩ : Str) = Str.ofString "0") with
        | true =>
          have h2' : decide (V.str ⟨#[c]⟩ = V.str (Str.ofString "0")) = true := decide_eq_true (by rw [of_decide_eq_true h2])
          rw [h2']
          rw [h2] at hQ
          exact hQ H (Same.refl H)
        | false =>
          have h2' : decide (V.str ⟨#[c]⟩ = V.str (Str.ofString "0")) = false := decide_eq_false (fun z => of_decide_eq_false h2 (V.str.inj z))
          rw [h2']
          rw [h2] at hQ
          exact none_passes (z := x) (p := fun c => !decide (c ∈ figL)) rfl (by simp) hx (fun c H1 R hR => by
            walk_at "rd"
            exact ⟨c, rfl, hR⟩) hQ
theorem ok_law_value_text (Z : Tx K mg base) : OkC P w K mg base L2.CX0 1 "_law_value_text" ["value"] sp_show_value := by
  refine mk0_law_value_text Z sc_law_value_text (fun vs H Q E h => ?_) (fun cdv A outer s H vs Q E hr h => ?_)
  · obtain ⟨x, rfl, _⟩ := h
    rfl
  · obtain ⟨c, rfl, hc, hQ⟩ := h
    refine ⟨_, (pss_cons (ps_if (pt_cmp (pc_isN (pv 0)) rfl) (pss_one (ps_ret pe_str)) pss_nil)
    (pss_one (ps_ret (pe_ifExp (pt_val (pe_callB call_isStr (by rfl) Z.n_isinstance (by decide +kernel) (pa_cons (pv 0) (pa_cons (pe_bltn (v := .ty "str") rfl Z.n_str (by decide +kernel) rfl) pa_nil)))) (pe_op op_add_str (pe_op op_add_str pe_str (pv 0)) pe_str) (pe_callTy call_str_int (by rfl) Z.n_str (by decide +kernel) (pa_cons (pv 0) pa_nil)))))), ?_⟩
    cases c with
    | non =>
      simp only [Sc.v]
      walk_at "rd"
      exact hQ
    | int i =>
      simp only [Sc.v]
      walk_at "rd"
      exact ⟨log_small hc, hQ⟩
    | str x =>
      simp only [Sc.v]
      walk_at "rd"
      have hl : x.length ≤ 8 := hc
      have z : (8 : Nat) + 2 ≤ sizeLine := by decide
      simp only [app_len, len_lit]
      exact ⟨by omega, by omega, hQ⟩
theorem sum_bound {ws : List Str} {x1 x2 : Str} (z1 : x1.length ≤ 8) (z2 : x2.length ≤ 8) (z3 : ws.length ≤ 5000) (z4 : ∀ y ∈ ws, y.length ≤ 2000) :
    ((x1 :: x2 :: ws).map (·.length)).sum + (x1 :: x2 :: ws).length * (Str.ofString " ").length ≤ 16777216 := by
  have hsum : ∀ l : List Str, (∀ y ∈ l, y.length ≤ 2000) → (l.map fun x => x.length).sum ≤ 2000 * l.length := by
    intro l hl
    induction l with
    | nil => exact Nat.zero_le _
    | cons y r ih =>
      have h1 := hl y List.mem_cons_self
      have h2 := ih fun z hz => hl z (List.mem_cons_of_mem _ hz)
      rw [List.map_cons, List.sum_cons, List.length_cons]
      omega
  have q := hsum ws z4
  have e1 : (Str.ofString " ").length = 1 := by decide +kernel
  simp only [List.map_cons, List.sum_cons, List.length_cons, e1]
  omega
def sp_law_text : Sp := fun vs H Q _ => ∃ v d, vs = [v] ∧ TD H v (Deed.d d) ∧ Deed.Ok d ∧ ∀ H', Same H H' → Q (.str (showD d)) H'
theorem ok_law_text (Z : Tx K mg base) : OkC P w K mg base L2.CX0 2 "_law_text" ["deed"] sp_law_text := by
  refine mk0_law_text Z sc_law_text (fun vs H Q E h => ?_) (fun cdv A outer s H vs Q E hr h => ?_)
  · obtain ⟨x, _, rfl, _⟩ := h
    rfl
  · obtain ⟨v, d, rfl, hd, ho, hQ⟩ := h
    refine ⟨_, (pss_cons (ps_if (pt_cmpR op_eq (pe_ix ix_tup (pv 0) pe_int (fun _ _ => rfl)) pe_str (nomark _)) (pss_one (ps_ret (pe_op op_add_str (pe_op op_add_str (pe_op op_add_str pe_str (pe_ix ix_tup (pv 0) pe_int (fun _ _ => rfl))) pe_str) (pe_callTy call_str_int (by rfl) Z.n_str (by decide +kernel) (pa_cons (pe_ix ix_tup (pv 0) pe_int (fun _ _ => rfl)) pa_nil))))) pss_nil)
    (pss_one (ps_ret (pe_m1 PySem.F.slot_str_join PySem.F.type_str_join mt_joinF pe_str (pe_op op_cat (pe_lst (pa_cons pe_str (pa_cons (pe_ix ix_tup (pv 0) pe_int (fun _ _ => rfl)) pa_nil))) (pe_lc (own := [("value", 1)]) (g := gName 1) (tt := tYes) rfl sc_law_text.nd (pi_tup (pe_ix ix_tup (pv 0) pe_int (fun _ _ => rfl))) (blkOk_by (own := [("value", 1)]) (N := ["deed", "value"]) (sc := defScope s_law_text) (by decide +kernel)) (fun _ _ _ _ _ => (pg_name (i := 1) sc_law_text.nd rfl (Or.inl rfl))) (fun _ _ _ _ _ => pts_nil) (fun _ _ _ _ _ => (pe_c (ok_law_value_text Z) hr (by decide) rfl pass0 (pa_cons (pv 1) pa_nil))))))))), ?_⟩
    cases d with
    | put t vs =>
      obtain ⟨a, b, rfl, h1, h2⟩ := Deed.of_put hd
      obtain ⟨o1, o2, o3⟩ := ho
      walk_at "rd"
      refine ⟨a, _, 0, _, rfl, rfl, .of h1, atI_nat (j := 0) rfl, scal_ss, ?_⟩
      rw [if_neg (by decide +kernel)]
      refine ⟨a, _, 1, _, rfl, rfl, .of h1, atI_nat (j := 1) rfl, by decide, fun p hp => ?_⟩
      have n1 : a ≠ p := ne_of_none h1 hp
      have n2 : b ≠ p := ne_of_none h2 hp
      refine ⟨_, rfl, a, _, 2, _, rfl, rfl, .of (by rw [upd_ne n1]; exact h1), atI_nat (j := 2) rfl, b, rfl, ⟨_, .of (by rw [upd_ne n2]; exact h2)⟩, fun D hD => ?_⟩
      refine lc_mapA (fun c => .str (showC c)) (walk_tup (xs := vs.map Sc.v)) hD (Nat.le_trans o2 (by decide)) (fun H' s' => .of (s' _ _ (by rw [upd_ne n2]; exact h2))) (fun c hc H1 Kt s1 ht => ?_) (fun H' s' e => ?_)
      · exact ⟨rfl, _, rfl, c, rfl, o3 c hc, ht _ (Same.refl _)⟩
      · have hsm : Same H H' := (same_new hp).trans s'
        refine ⟨p, D, _, _, rfl, rfl, s' _ _ upd_same, e, ?_, fun q hq => ⟨_, q, "put" :: t :: vs.map showC, rfl, rfl, .of ?_, ?_, hQ _ (sameNew hsm hq)⟩⟩
        · rw [List.length_map]
          exact Nat.le_trans (by simp only [List.length_cons, List.length_nil]; omega : _ ≤ 6000) (by decide)
        · rw [upd_same, List.map_cons, List.map_cons, List.map_map]
          rfl
        · exact sum_bound (x1 := "put") (by decide +kernel) o1 (by rw [List.length_map]; exact o2) (fun y hy => by
            obtain ⟨c, hc, rfl⟩ := List.mem_map.mp hy
            exact showC_len (o3 c hc))
    | take t n =>
      obtain ⟨a, rfl, h1⟩ := Deed.of_take hd
      obtain ⟨o1, o2⟩ := ho
      walk_at "rd"
      refine ⟨a, _, 0, _, rfl, rfl, .of h1, atI_nat (j := 0) rfl, scal_ss, ?_⟩
      rw [if_pos (by decide +kernel)]
      have z := num_len o2
      have z2 : (3000 : Nat) ≤ sizeLine := by decide
      have l1 : (Str.ofString "take ").length = 5 := by decide +kernel
      have l2 : (Str.ofString " ").length = 1 := by decide +kernel
      refine ⟨a, _, 1, _, rfl, rfl, .of h1, atI_nat (j := 1) rfl, t, rfl, by omega, by rw [app_len]; omega, a, _, 2, _, rfl, rfl, .of h1, atI_nat (j := 2) rfl, n, rfl, o2, by rw [app_len, app_len]; omega, ?_⟩
      have es := showD_take t n
      rw [es]
      exact hQ H (Same.refl H)
end
end K96

namespace K96
open PySem PySem.Spec PyProof.Rows L2 G96 TL
theorem lawCount_iff {x : Str} : lawCount x = true ↔ CountL (tl x) := by
  have all : (x.cps.toList.all fun c => !!decide (c ∈ figL)) = true ↔ NumText.AllDigits (tl x) := by
    simp only [Bool.not_not]
    exact all_fig
  have hd : tl x ≠ [] → (((⟨#[x.cps.toList.headD 0]⟩ : Str) = "0") ↔ (tl x).head? = some 48) := fun hne => by
    rw [show ("0" : Str) = ⟨#[48]⟩ from s_zero]
    cases h : tl x with
    | nil => exact absurd h hne
    | cons c r =>
      have h' : x.cps.toList = c :: r := h
      rw [h', List.headD_cons, List.head?_cons]
      constructor
      · intro z
        have q := congrArg tl z
        cases q
        rfl
      · intro z
        cases z
        rfl
  unfold lawCount
  rw [Bool.or_eq_true, Bool.and_eq_true, Bool.and_eq_true, decide_eq_true_eq, eq_zero, Bool.not_eq_true', Bool.not_eq_true', decide_eq_false_iff_not, decide_eq_false_iff_not, eq_empty, all]
  constructor
  · rintro (h | ⟨h1, h2, h3⟩)
    · rw [h]
      exact ⟨by simp, fun c hc => by rw [List.mem_singleton.mp hc]; omega, .inl rfl⟩
    · exact ⟨h1, h3, .inr fun z => h2 ((hd h1).mpr z)⟩
  · rintro ⟨h1, h2, h3 | h3⟩
    · exact .inl h3
    · exact .inr ⟨h1, fun z => h3 ((hd h1).mp z), h2⟩
theorem count_int {x : Str} (h : lawCount x = true) (hl : x.length ≤ 600) : PySem.intText? x = some (intV x) := by
  unfold intV
  rw [count_val (lawCount_iff.mp h) (by omega)]
  rfl
theorem lawName_iff {x : Str} : lawName x = true ↔ 0 < x.length ∧ x.length < 9 ∧ ∀ c ∈ tl x, 97 ≤ c ∧ c ≤ 122 := by
  unfold lawName
  have ea : ("a" : Str).cps.toList = [97] := by decide +kernel
  have ez : ("z" : Str).cps.toList = [122] := by decide +kernel
  rw [Bool.and_eq_true, Bool.and_eq_true, decide_eq_true_eq, decide_eq_true_eq, List.all_eq_true, ea, ez, and_assoc]
  have one : ∀ a b : Nat, ([a] : List Nat) < [b] ↔ a < b := fun a b => by
    rw [List.cons_lt_cons_iff]
    simp
  have each : ∀ c, (!!(!decide (([c] : List Nat) < [97]) && !decide (([122] : List Nat) < [c]))) = true ↔ 97 ≤ c ∧ c ≤ 122 := fun c => by
    rw [Bool.not_not, Bool.and_eq_true, Bool.not_eq_true', Bool.not_eq_true', decide_eq_false_iff_not, decide_eq_false_iff_not, one, one]
    omega
  exact ⟨fun h => ⟨h.1, h.2.1, fun c hc => (each c).mp (h.2.2 c hc)⟩, fun h => ⟨h.1, h.2.1, fun c hc => (each c).mpr (h.2.2 c hc)⟩⟩
theorem nameS_iff {x : Str} : nameS x = true ↔ 0 < x.length ∧ x.length < 9 ∧ ∀ c ∈ tl x, 97 ≤ c ∧ c ≤ 122 := by
  unfold nameS
  rw [Bool.and_eq_true, Bool.and_eq_true, decide_eq_true_eq, decide_eq_true_eq, List.all_eq_true, and_assoc]
  exact ⟨fun h => ⟨by omega, by omega, fun c hc => (let_iff c).mp (h.2.2 c hc)⟩, fun h => ⟨by omega, by omega, fun c hc => (let_iff c).mpr (h.2.2 c hc)⟩⟩
theorem name_eq (x : Str) : nameS x = lawName x := by
  rw [Bool.eq_iff_iff, nameS_iff, lawName_iff]
theorem countS_eq (x : Str) : countS x = lawCount x := by
  rw [Bool.eq_iff_iff, count_iff, lawCount_iff]
theorem strOk_name {x : Str} (h : lawName x = true) : PyData.strOk x = true := by
  have q := (lawName_iff.mp h).2.2
  unfold PyData.strOk
  rw [← Array.all_toList, List.all_eq_true]
  intro c hc
  have := q c hc
  exact decide_eq_true (by omega)
end K96

namespace K96
open PySem PySem.Spec PyProof.Rows L2 G96 TL
local macro_rules | `(tactic| walk_at "rd") => `(tactic| simp only [tSeq, tIfS, tOr, tAnd, tNot, tB, tCB, tCons, tNil, tVar, tC, tTest, tChain, rI0, tRet, tOp, tCall, tAsg, gName, tNext, tDrop, tIf, tAndV, tOrV, tNotV, tIsN, tNotN, tM0, tM1, tSl, tPart, tNoPart, rSlS, rEq, rNe, scal_ss, scal_ii, scal_bb, LenV_s, rIsStr, isStr_s, isStr_n, isStr_b, isStr_i, rInt1, tTup, tLst, tFmt, tUn, L2.start, List.map_cons, List.map_nil, List.length_cons, List.length_nil, List.replicate_succ, List.replicate_zero, List.cons_append, List.nil_append, List.append_nil, Nat.reduceAdd, Nat.reduceSub, Nat.sub_self, List.getElem?_cons_zero, List.getElem?_cons_succ, List.set_cons_zero, List.set_cons_succ, Option.some.injEq, exists_eq_left', exists_eq_left, and_assoc, exists_and_left, exists_eq', List.cons.injEq, true_and, and_true, V.int.injEq, V.str.injEq, V.bl.injEq, V.ref.injEq, reduceCtorEq, false_and, and_false, exists_false, or_false, false_or, if_true, if_false, Bool.not_true, Bool.not_false, Bool.false_eq_true, ite_true, ite_false, decide_true, decide_false, eq_self, tJs, rU, gTup, gNil, gCons, StX.tStar, cx_K, must_t, must_f, rNewStrs, rI])
section
variable {P : Program} {w : World} {K : PySem.W.Frag} {mg : Str → Option Value} {base : Heap}
def lawDigs (x : Str) : Str := if cutS x none (some 1) = "-" then cutS x (some 1) none else x
def lawRight (x : Str) : Bool := lawCount (lawDigs x) && (!decide (x = "-0") && decide ((lawDigs x).length < 14))
def lawVR (x : Str) : Bool × Sc :=
  if x = "nothing" then (true, .non)
  else if cutS x none (some 1) = "\"" then (decide (2 < x.length) && (decide (⟨#[x.cps.toList.getLastD 0]⟩ = ("\"" : Str)) && lawName (cutS x (some 1) (some (-1)))), .str (cutS x (some 1) (some (-1))))
  else (lawRight x && decide (-1000000000000 ≤ (if lawRight x = true then intV x else 0) ∧ (if lawRight x = true then intV x else 0) ≤ 1000000000000), .int (if lawRight x = true then intV x else 0))
def sp_law_value_read : Sp := fun vs H Q _ => ∃ x : Str, vs = [.str x] ∧ x.length ≤ 600 ∧ ∀ p H', Same H H' → H' p = some (.tup [.bl (lawVR x).1, (lawVR x).2.v]) → Q (.ref p) H'
theorem lawDigs_tl (x : Str) : tl (lawDigs x) = if (tl x).head? = some 45 then (tl x).tail else tl x := by
  unfold lawDigs
  rw [show ("-" : Str) = ⟨#[45]⟩ from s_minus]
  by_cases h : (tl x).head? = some 45
  · rw [if_pos h, if_pos (cut_head.mpr h), cut_tail]
  · rw [if_neg h, if_neg (fun z => h (cut_head.mp z))]
/-- a number's signs, of fewer than fourteen figures -/
def NumS (x : Str) : Prop := (CountL (tl x) ∧ (tl x).length < 14) ∨ ∃ ds, tl x = 45 :: ds ∧ NumText.AllDigits ds ∧ ds ≠ [] ∧ ds.head? ≠ some 48 ∧ ds.length < 14
theorem lawRight_iff {x : Str} : lawRight x = true ↔ NumS x := by
  have e0 : x = "-0" ↔ tl x = [45, 48] := by
    have z : tl (Str.ofString "-0") = [45, 48] := by decide +kernel
    exact ⟨fun h => by rw [h]; exact z, fun h => ext_tl (by rw [h]; exact z.symm)⟩
  unfold lawRight NumS
  rw [Bool.and_eq_true, Bool.and_eq_true, lawCount_iff, Bool.not_eq_true', decide_eq_false_iff_not, decide_eq_true_eq, len_tl, lawDigs_tl, e0]
  by_cases hm : (tl x).head? = some 45
  · obtain ⟨ds, hds⟩ : ∃ ds, tl x = 45 :: ds := by
      cases h : tl x with
      | nil => rw [h] at hm; cases hm
      | cons c r => rw [h] at hm; cases hm; exact ⟨r, rfl⟩
    rw [if_pos hm, hds]
    show CountL ds ∧ ¬ (45 :: ds = [45, 48]) ∧ ds.length < 14 ↔ _
    constructor
    · rintro ⟨⟨h1, h2, h3⟩, h4, h5⟩
      refine .inr ⟨ds, rfl, h2, h1, ?_, h5⟩
      rcases h3 with h3 | h3
      · exact absurd (by rw [h3]) h4
      · exact h3
    · rintro (⟨⟨_, h, _⟩, _⟩ | ⟨es, e, h2, h1, h3, h5⟩)
      · exact absurd (h 45 List.mem_cons_self) (by omega)
      · cases e
        refine ⟨⟨h1, h2, .inr h3⟩, fun z => ?_, h5⟩
        cases z
        exact h3 rfl
  · rw [if_neg hm]
    constructor
    · rintro ⟨h1, _, h3⟩
      exact .inl ⟨h1, h3⟩
    · rintro (⟨h1, h3⟩ | ⟨es, e, _⟩)
      · refine ⟨h1, fun z => ?_, h3⟩
        rw [z] at hm
        exact hm rfl
      · rw [e] at hm
        exact absurd rfl hm
theorem right_int {x : Str} (h : lawRight x = true) (hl : x.length ≤ 600) : PySem.intText? x = some (intV x) := by
  unfold intV
  rcases lawRight_iff.mp h with ⟨h, _⟩ | ⟨ds, e, h1, h2, _⟩
  · rw [count_val h (by omega)]
    rfl
  · rw [neg_val e h1 h2 (by omega)]
    rfl
theorem ok_law_value_read (Z : Tx K mg base) : OkC P w K mg base L2.CX0 2 "_law_value_read" ["it"] sp_law_value_read := by
  refine mk0_law_value_read Z sc_law_value_read (fun vs H Q E h => ?_) (fun cdv A outer s H vs Q E hr h => ?_)
  · obtain ⟨x, rfl, _⟩ := h
    rfl
  · obtain ⟨x, rfl, hx, hQ⟩ := h
    have hu := hr.units
    refine ⟨_, (pss_cons (ps_if (pt_cmpR op_eq (pv 0) pe_str (nomark _)) (pss_one (ps_ret (pe_tup (pa_cons pe_bl (pa_cons pe_non pa_nil))))) pss_nil)
    (pss_cons (ps_if (pt_cmpR op_eq (pe_slice sl_str (pv 0) po_none (po_some pe_int)) pe_str (nomark _)) (pss_one (ps_ret (pe_tup (pa_cons (pe_and (pe_cmpR op_gt (pe_callB call_len (by rfl) Z.n_len (by decide +kernel) (pa_cons (pv 0) pa_nil)) pe_int (nomark _)) (pe_and (pe_cmpR op_eq (pe_ix ix_str (pv 0) (pe_un un_neg pe_int) (fun _ _ => rfl)) pe_str (nomark _)) (pe_one (pe_c (ok_law_is_name Z) hr (by decide) rfl pass0 (pa_cons (pe_slice sl_str (pv 0) (po_some pe_int) (po_some (pe_un un_neg pe_int))) pa_nil))))) (pa_cons (pe_slice sl_str (pv 0) (po_some pe_int) (po_some (pe_un un_neg pe_int))) pa_nil))))) pss_nil)
    (C8.pss_cut (ps_set (i := 1) sc_law_value_read.nd rfl (Or.inl rfl) (pe_ifExp (pt_cmpR op_eq (pe_slice sl_str (pv 0) po_none (po_some pe_int)) pe_str (nomark _)) (pe_slice sl_str (pv 0) (po_some pe_int) po_none) (pv 0)))
    (pss_cons (ps_set (i := 2) sc_law_value_read.nd rfl (Or.inl rfl) (pe_and (pe_c (ok_law_is_count Z) hr (by decide) rfl pass0 (pa_cons (pv 1) pa_nil)) (pe_and (pe_cmpR op_ne (pv 0) pe_str (nomark _)) (pe_one (pe_cmpR op_lt (pe_callB call_len (by rfl) Z.n_len (by decide +kernel) (pa_cons (pv 1) pa_nil)) pe_int (nomark _))))))
    (C8.pss_cut (ps_set (i := 3) sc_law_value_read.nd rfl (Or.inl rfl) (pe_ifExp (pt_val (pv 2)) (pe_callTy call_int_str (by rfl) Z.n_int (by decide +kernel) (pa_cons (pv 0) pa_nil)) pe_int))
    (pss_one (ps_ret (pe_tup (pa_cons (pe_and (pv 2) (pe_one (pe_chain op_le op_le (pe_un un_neg (pe_op op_pow pe_int pe_int)) (pv 3) (pe_op op_pow pe_int pe_int)))) (pa_cons (pv 3) pa_nil)))))))))), ?_⟩
    walk_at "rd"
    have line : x.length ≤ sizeLine := Nat.le_trans hx (by decide)
    have hx5 : x.length ≤ 100000 := by omega
    by_cases h0 : x = Str.ofString "nothing"
    · rw [if_pos (decide_eq_true h0)]
      have e : lawVR x = (true, .non) := if_pos h0
      rw [e] at hQ
      exact ⟨by decide, fun p hp => hQ p _ (same_new hp) upd_same⟩
    rw [if_neg (by simpa using h0)]
    refine ⟨line, ?_⟩
    by_cases h1 : cutS x none (some 1) = Str.ofString "\""
    · rw [if_pos (decide_eq_true h1)]
      have e : lawVR x = (decide (2 < x.length) && (decide (⟨#[x.cps.toList.getLastD 0]⟩ = ("\"" : Str)) && lawName (cutS x (some 1) (some (-1)))), .str (cutS x (some 1) (some (-1)))) := by
        unfold lawVR
        rw [if_neg h0, if_pos h1]
      rw [e] at hQ
      refine ⟨line, ?_⟩
      cases h2 : decide (2 < x.length) with
      | false =>
        rw [h2] at hQ
        have h2' : ¬ 2 < x.length := of_decide_eq_false h2
        rw [if_neg (by rw [decide_eq_true_eq]; omega)]
        exact ⟨line, by decide, fun p hp => hQ p _ (same_new hp) upd_same⟩
      | true =>
        rw [h2] at hQ
        have h2' : 2 < x.length := of_decide_eq_true h2
        rw [if_pos (decide_eq_true (by omega))]
        obtain ⟨l, c, hc⟩ : ∃ l c, x.cps.toList = l ++ [c] := by
          rcases List.eq_nil_or_concat x.cps.toList with h | ⟨l, c, h⟩
          · have z : x.length = 0 := by rw [len_tl, show tl x = [] from h]; rfl
            omega
          · exact ⟨l, c, by rw [h, List.concat_eq_append]⟩
        have el : x.cps.toList.getLastD 0 = c := by rw [hc, List.getLastD_concat]
        rw [el] at hQ
        refine ⟨x, -1, c, rfl, rfl, line, by rw [hc]; exact atI_last _ _, scal_ss, ?_⟩
        cases h3 : decide ((⟨#[c]⟩ : Str) = Str.ofString "\"") with
        | false =>
          have h3' : decide (V.str ⟨#[c]⟩ = V.str (Str.ofString "\"")) = false := decide_eq_false (fun z => of_decide_eq_false h3 (V.str.inj z))
          rw [h3']
          rw [h3] at hQ
          exact ⟨line, by decide, fun p hp => hQ p _ (same_new hp) upd_same⟩
        | true =>
          have h3' : decide (V.str ⟨#[c]⟩ = V.str (Str.ofString "\"")) = true := decide_eq_true (by rw [of_decide_eq_true h3])
          rw [h3']
          rw [h3] at hQ
          exact ⟨line, _, rfl, Nat.le_trans (cutS_length _ _ _) hx5, fun H2 s2 => ⟨line, by decide, fun p hp => hQ p _ (sameNew s2 hp) upd_same⟩⟩
    · rw [if_neg (by simpa using h1)]
      have e : lawVR x = (lawRight x && decide (-1000000000000 ≤ (if lawRight x = true then intV x else 0) ∧ (if lawRight x = true then intV x else 0) ≤ 1000000000000), .int (if lawRight x = true then intV x else 0)) := by
        unfold lawVR
        rw [if_neg h0, if_neg h1]
      rw [e] at hQ
      have hd : (lawDigs x).length ≤ 100000 := by
        unfold lawDigs
        split
        · exact Nat.le_trans (cutS_length _ _ _) hx5
        · exact hx5
      refine ⟨fun σ' H' => σ' = [some (.str x), some (.str (lawDigs x)), none, none] ∧ H' = H, ?_, ?_⟩
      · walk_at "rd"
        refine ⟨line, ?_⟩
        unfold lawDigs
        by_cases h4 : cutS x none (some 1) = Str.ofString "-"
        · rw [if_pos (decide_eq_true h4), if_pos h4]
          exact ⟨line, rfl⟩
        · rw [if_neg (by simpa using h4), if_neg h4]
      rintro σ' H' ⟨rfl, rfl⟩
      have rest : ∀ H2, Same H' H2 → C8.tCut (tAsg (tIf (tB (tVar 2)) (tCB (fun xs H Q => ∃ a, xs = [V.str a] ∧ ∃ x, intText? a = some x ∧ a.length ≤ 640 ∧ Q (V.int x) H) (tCons (tVar 0) tNil)) (tC (V.int 0))) (gName 3))
          (tRet (tTup (tCons (tAndV (tVar 2) (tChain (rI0 fun i j => V.bl (decide (i ≤ j))) (rI0 fun i j => V.bl (decide (i ≤ j)))
            (tUn (rU fun i => V.int (-i)) (tOp (rI CPow fun i j => V.int (i ^ j.toNat)) (tC (V.int 10)) (tC (V.int 12)))) (tVar 3) (tOp (rI CPow fun i j => V.int (i ^ j.toNat)) (tC (V.int 10)) (tC (V.int 12)))))
            (tCons (tVar 3) tNil)))) { nx := fun x H' => Q V.non H', rt := Q } [some (V.str x), some (V.str (lawDigs x)), some (V.bl (lawRight x)), none] H2 := by
        intro H2 s2
        refine ⟨fun σ' H' => σ' = [some (.str x), some (.str (lawDigs x)), some (.bl (lawRight x)), some (.int (if lawRight x = true then intV x else 0))] ∧ H' = H2, ?_, ?_⟩
        · walk_at "rd"
          cases h5 : lawRight x with
          | true => exact ⟨_, right_int h5 hx, by omega, rfl⟩
          | false => exact rfl
        · rintro σ' H' ⟨rfl, rfl⟩
          generalize (if lawRight x = true then intV x else 0) = n at hQ
          walk_at "rd"
          have p12 : (10 : Int) ^ Int.toNat 12 = 1000000000000 := by decide +kernel
          have cp : CPow 10 12 := by unfold CPow; decide +kernel
          simp only [p12]
          have two : 2 ≤ sizeLine := by decide
          have hQ' : ∀ b, b = (lawRight x && decide (-1000000000000 ≤ n ∧ n ≤ 1000000000000)) → ∀ p, H' p = none → Q (V.ref p) (upd H' p (HO.tup [V.bl b, V.int n])) := by
            rintro b rfl p hp
            exact hQ p _ (sameNew s2 hp) upd_same
          cases h5 : lawRight x with
          | false => exact ⟨two, fun p hp => hQ' _ (by rw [h5]; rfl) p hp⟩
          | true =>
            rw [if_pos rfl]
            refine ⟨cp, ?_⟩
            cases h6 : decide (-1000000000000 ≤ n) with
            | false => exact ⟨two, fun p hp => hQ' _ (by rw [h5, Bool.true_and]; exact (decide_eq_false (fun z => of_decide_eq_false h6 z.1)).symm) p hp⟩
            | true => exact ⟨cp, two, fun p hp => hQ' _ (by rw [h5, Bool.true_and]; exact decide_eq_decide.2 ⟨fun z => ⟨of_decide_eq_true h6, z⟩, fun z => z.2⟩) p hp⟩
      walk_at "rd"
      refine ⟨_, rfl, hd, fun H2 s2 => ⟨_, rfl, ?_⟩⟩
      have hh : lawRight x = (lawCount (lawDigs x) && (!decide (x = "-0") && decide ((lawDigs x).length < 14))) := rfl
      cases h7 : lawCount (lawDigs x) with
      | false =>
        have q := rest H2 s2
        rw [hh, h7] at q
        exact q
      | true =>
        rw [if_pos rfl]
        rw [h7] at hh
        by_cases h8 : x = "-0"
        · have q := rest H2 s2
          rw [show lawRight x = false by rw [hh, decide_eq_true h8]; rfl] at q
          rw [if_neg (by rw [show decide (x = Str.ofString "-0") = true from decide_eq_true h8]; decide)]
          exact q
        · rw [if_pos (by rw [show decide (x = Str.ofString "-0") = false from decide_eq_false h8]; rfl)]
          refine ⟨Nat.le_trans hd (by decide), ?_⟩
          have q := rest H2 s2
          rw [show lawRight x = decide (((lawDigs x).length : Int) < 14) by rw [hh, decide_eq_false h8, Bool.not_false, Bool.true_and, Bool.true_and]; exact decide_eq_decide.2 (by omega)] at q
          exact q
end
end K96

namespace K96
open PySem PySem.Spec PyProof.Rows L2 G96 TL
local macro_rules | `(tactic| walk_at "rd") => `(tactic| simp only [tSeq, tIfS, tOr, tAnd, tNot, tB, tCB, tCons, tNil, tVar, tC, tTest, tChain, rI0, tRet, tOp, tCall, tAsg, gName, tNext, tDrop, tIf, tAndV, tOrV, tNotV, tIsN, tNotN, tM0, tM1, tSl, tPart, tNoPart, rSlS, rEq, rNe, scal_ss, scal_ii, scal_bb, LenV_s, rIsStr, isStr_s, isStr_n, isStr_b, isStr_i, rInt1, tTup, tLst, tFmt, tUn, L2.start, List.map_cons, List.map_nil, List.length_cons, List.length_nil, List.replicate_succ, List.replicate_zero, List.cons_append, List.nil_append, List.append_nil, Nat.reduceAdd, Nat.reduceSub, Nat.sub_self, List.getElem?_cons_zero, List.getElem?_cons_succ, List.set_cons_zero, List.set_cons_succ, Option.some.injEq, exists_eq_left', exists_eq_left, and_assoc, exists_and_left, exists_eq', List.cons.injEq, true_and, and_true, V.int.injEq, V.str.injEq, V.bl.injEq, V.ref.injEq, reduceCtorEq, false_and, and_false, exists_false, or_false, false_or, if_true, if_false, Bool.not_true, Bool.not_false, Bool.false_eq_true, ite_true, ite_false, decide_true, decide_false, eq_self, tJs, rU, gTup, gNil, gCons, StX.tStar, cx_K, must_t, must_f, rNewStrs, rI])
section
variable {P : Program} {w : World} {K : PySem.W.Frag} {mg : Str → Option Value} {base : Heap}
theorem ix_tupK {X : Cx} {K : PySem.W.Frag} (h : X.K = K) : IxR X (rIxT K) := h ▸ ix_tup
def lawD (x : Str) : Option Deed :=
  let ws := Txt.split x " "
  if ws.length < 3 ∨ ¬ (wordAt ws 0 = "put" ∨ wordAt ws 0 = "take") ∨ lawName (wordAt ws 1) = false then none
  else if wordAt ws 0 = "take" then (if ws.length = 3 ∧ lawCount (wordAt ws 2) = true then some (.take (wordAt ws 1) (intV (wordAt ws 2))) else none)
  else if (ws.drop 2).all (fun y => (lawVR y).1) = true then some (.put (wordAt ws 1) ((ws.drop 2).map fun y => (lawVR y).2)) else none
def optD : Option Deed → PyData
  | none => .none
  | some d => d.d
def vrD (y : Str) : PyData := .tuple [.bool (lawVR y).1, (lawVR y).2.d]
theorem of_vr {H : Hp} {v : V} {y : Str} (h : TD H v (vrD y)) : ∃ a, v = .ref a ∧ H a = some (.tup [.bl (lawVR y).1, (lawVR y).2.v]) := by
  cases h with
  | tup e r => cases r with
    | cons h1 r => cases r with
      | cons h2 r =>
        cases r
        cases h1
        rw [Sc.of_td h2] at e
        exact ⟨_, rfl, e⟩
theorem mk_vr {H : Hp} {a : Addr} {y : Str} (h : H a = some (.tup [.bl (lawVR y).1, (lawVR y).2.v])) : TD H (.ref a) (vrD y) := .tup h (.cons (.bl _) (.cons (Sc.td H _) .nil))
def sp_law_read : Sp := fun vs H Q _ => ∃ x : Str, vs = [.str x] ∧ LineOk x ∧ ∀ v H', Same H H' → TD H' v (optD (lawD x)) → Q v H'
theorem ok_law_read (Z : Tx K mg base) : OkC P w K mg base L2.CX0 3 "_law_read" ["it"] sp_law_read := by
  refine mk0_law_read Z sc_law_read (fun vs H Q E h => ?_) (fun cdv A outer s H vs Q E hr h => ?_)
  · obtain ⟨x, rfl, _⟩ := h
    rfl
  · obtain ⟨x, rfl, hx, hQ⟩ := h
    have hu := hr.units
    refine ⟨_, (pss_cons (ps_set (i := 1) sc_law_read.nd rfl (Or.inl rfl) (pe_m1 PySem.F.slot_str_split PySem.F.type_str_split mt_splitF (pv 0) pe_str))
    (pss_cons (ps_if (PW.pt (pw_or (pt_cmpR op_lt (pe_callB call_len (by rfl) Z.n_len (by decide +kernel) (pa_cons (pv 1) pa_nil)) pe_int (nomark _)) (pw_or (pt_cmpR op_notIn_seq (pe_ix ix_list (pv 1) pe_int (fun _ _ => rfl)) (pe_tup (pa_cons pe_str (pa_cons pe_str pa_nil))) (by rfl)) (pw_or1 (pt_not (pt_val (pe_c (ok_law_is_name Z) hr (by decide) rfl pass0 (pa_cons (pe_ix ix_list (pv 1) pe_int (fun _ _ => rfl)) pa_nil)))))))) (pss_one (ps_ret pe_non)) pss_nil)
    (pss_cons (ps_if (pt_cmpR op_eq (pe_ix ix_list (pv 1) pe_int (fun _ _ => rfl)) pe_str (nomark _)) (pss_one (ps_ret (pe_ifExp (PW.pt (pw_and (pt_cmpR op_eq (pe_callB call_len (by rfl) Z.n_len (by decide +kernel) (pa_cons (pv 1) pa_nil)) pe_int (nomark _)) (pw_and1 (pt_val (pe_c (ok_law_is_count Z) hr (by decide) rfl pass0 (pa_cons (pe_ix ix_list (pv 1) pe_int (fun _ _ => rfl)) pa_nil)))))) (pe_tup (pa_cons pe_str (pa_cons (pe_ix ix_list (pv 1) pe_int (fun _ _ => rfl)) (pa_cons (pe_callTy call_int_str (by rfl) Z.n_int (by decide +kernel) (pa_cons (pe_ix ix_list (pv 1) pe_int (fun _ _ => rfl)) pa_nil)) pa_nil)))) pe_non))) pss_nil)
    (pss_cons (ps_setLc (i := 2) (own := [("word", 3)]) (g := gName 3) (tt := tYes) rfl sc_law_read.nd rfl rfl (sw_true rfl rfl rfl (by decide +kernel)) (pi_list (pe_slice sl_list (pv 1) (po_some pe_int) po_none)) (blkOk_by (own := [("word", 3)]) (N := ["it", "words", "some", "word", "one", "is_one", "value"]) (sc := defScope s_law_read) (by decide +kernel)) (fun _ _ _ _ _ => (pg_name (i := 3) sc_law_read.nd rfl (Or.inl rfl))) (fun _ _ _ _ _ => pts_nil) (fun _ _ _ _ _ => (pe_c (ok_law_value_read Z) hr (by decide) rfl pass0 (pa_cons (pv 3) pa_nil))))
    (pss_cons (ps_if (pt_cmpR (op_neNil hu) (pe_lc (own := [("one", 4)]) (g := gName 4) rfl sc_law_read.nd (pi_list (pv 2)) (blkOk_by (own := [("one", 4)]) (N := ["it", "words", "some", "word", "one", "is_one", "value"]) (sc := defScope s_law_read) (by decide +kernel)) (fun _ _ _ _ _ => (pg_name (i := 4) sc_law_read.nd rfl (Or.inl rfl))) (fun _ _ _ _ _ => (pts_one (pt_not (pt_val (pe_ix (ix_tupK (K := K) rfl) (pv 4) pe_int (fun _ _ => rfl)))))) (fun _ _ _ _ _ => pe_int)) (pe_lst pa_nil) (nomark _)) (pss_one (ps_ret pe_non)) pss_nil)
    (pss_one (ps_ret (pe_tup (pa_cons pe_str (pa_cons (pe_ix ix_list (pv 1) pe_int (fun _ _ => rfl)) (pa_cons (pe_callTy call_tuple_of (by rfl) Z.n_tuple (by decide +kernel) (pa_cons (pe_lc (own := [("is_one", 5), ("value", 6)]) (g := gTup K 2 (gCons (gName 5) (gCons (gName 6) gNil))) (tt := tYes) rfl sc_law_read.nd (pi_list (pv 2)) (blkOk_by (own := [("is_one", 5), ("value", 6)]) (N := ["it", "words", "some", "word", "one", "is_one", "value"]) (sc := defScope s_law_read) (by decide +kernel)) (fun _ _ _ _ _ => (pg_tup rfl (pgs_cons (pg_name (i := 5) sc_law_read.nd rfl (Or.inl rfl) (hf := Or.inr rfl)) (pgs_cons (pg_name (i := 6) sc_law_read.nd rfl (Or.inl rfl) (hf := Or.inr rfl)) pgs_nil)))) (fun _ _ _ _ _ => pts_nil) (fun _ _ _ _ _ => (pv 6))) pa_nil)) pa_nil))))))))))), ?_⟩
    walk_at "rd"
    have z5 : (5002 : Nat) ≤ sizeLine := by decide
    have hl5 := hx.1
    refine ⟨x, Str.ofString " ", rfl, rfl, by decide +kernel, by omega, fun p hp => ?_⟩
    generalize hws : Txt.split x (Str.ofString " ") = ws
    have hwl : ws.length ≤ 5002 := by
      have q := split_len x (Str.ofString " ")
      rw [hws] at q
      omega
    have hlong : ∀ y ∈ ws, y.length ≤ 600 := fun y hy => hx.2 y (by rw [show Txt.split x " " = ws from hws]; exact hy)
    have hw : ∀ i, (wordAt ws i).length ≤ 600 := fun i => by
      unfold wordAt
      by_cases hi : i < ws.length
      · rw [List.getElem?_eq_getElem hi]
        exact hlong _ (List.getElem_mem hi)
      · rw [List.getElem?_eq_none (by omega)]
        exact Nat.zero_le _
    have s1 : Same H (upd H p (.lst (ws.map V.str))) := same_new hp
    have hL : upd H p (.lst (ws.map V.str)) p = some (.lst (ws.map V.str)) := upd_same
    generalize upd H p (.lst (ws.map V.str)) = H1 at s1 hL
    have er : lawD x = if ws.length < 3 ∨ ¬ (wordAt ws 0 = "put" ∨ wordAt ws 0 = "take") ∨ lawName (wordAt ws 1) = false then none
        else if wordAt ws 0 = "take" then (if ws.length = 3 ∧ lawCount (wordAt ws 2) = true then some (.take (wordAt ws 1) (intV (wordAt ws 2))) else none)
        else if (ws.drop 2).all (fun y => (lawVR y).1) = true then some (.put (wordAt ws 1) ((ws.drop 2).map fun y => (lawVR y).2)) else none := by
      unfold lawD
      rw [show Txt.split x " " = ws from hws]
    rw [er] at hQ
    refine ⟨_, LenV_l (.of hL), ?_⟩
    rw [List.length_map]
    by_cases h2 : ws.length < 3
    · rw [if_pos (decide_eq_true (by omega))]
      rw [if_pos (Or.inl h2)] at hQ
      exact hQ _ _ s1 .non
    · rw [if_neg (by rw [decide_eq_true_eq]; omega)]
      refine ⟨p, _, 0, _, rfl, rfl, .of hL, at_ws (i := 0) (by omega), ?_⟩
      refine ⟨by decide, fun q0 hq0 => ⟨q0, _, rfl, .inr (.of upd_same), rfl, rfl, ?_⟩⟩
      have s2 := sameNew s1 hq0 (o := .tup [V.str (Str.ofString "put"), V.str (Str.ofString "take")])
      have hL2 : upd H1 q0 (.tup [V.str (Str.ofString "put"), V.str (Str.ofString "take")]) p = some (.lst (ws.map V.str)) := by rw [upd_ne (ne_of_none hL hq0)]; exact hL
      generalize upd H1 q0 (.tup [V.str (Str.ofString "put"), V.str (Str.ofString "take")]) = H2 at s2 hL2
      refine ⟨_, rfl, ?_⟩
      have ein : inV (.str (wordAt ws 0)) [V.str (Str.ofString "put"), V.str (Str.ofString "take")] = decide (wordAt ws 0 = "put" ∨ wordAt ws 0 = "take") := by
        have g : ∀ a b : Str, eqV (.str a) (.str b) = decide (a = b) := fun a b => by
          show (a == b) = _
          by_cases h : a = b
          · rw [h, decide_eq_true rfl]
            exact beq_self_eq_true b
          · rw [decide_eq_false h]
            exact beq_eq_false_iff_ne.2 h
        unfold inV
        simp only [List.any_cons, List.any_nil, Bool.or_false, g]
        rw [decide_eq_decide.2 (show (Str.ofString "put" = wordAt ws 0) ↔ _ from eq_comm), decide_eq_decide.2 (show (Str.ofString "take" = wordAt ws 0) ↔ _ from eq_comm)]
        exact (Bool.decide_or _ _).symm
      rw [if_pos rfl, ein]
      by_cases h3 : wordAt ws 0 = "put" ∨ wordAt ws 0 = "take"
      · rw [decide_eq_true h3, if_neg (by decide)]
        refine ⟨p, _, 1, _, rfl, rfl, .of hL2, at_ws (i := 1) (by omega), _, rfl, Nat.le_trans (hw 1) (by decide), fun H3 s3 => ⟨_, rfl, ?_⟩⟩
        have s13 := s2.trans s3
        have hL3 := s3 _ _ hL2
        cases h4 : lawName (wordAt ws 1) with
        | false =>
          rw [if_pos (Or.inr (Or.inr h4))] at hQ
          exact hQ _ _ s13 .non
        | true =>
          rw [if_neg (fun z => z.elim h2 fun z => z.elim (fun z => z h3) fun z => by rw [h4] at z; cases z)] at hQ
          refine ⟨p, _, 0, _, rfl, rfl, .of hL3, at_ws (i := 0) (by omega), scal_ss, ?_⟩
          by_cases h5 : wordAt ws 0 = "take"
          · rw [if_pos (decide_eq_true (by rw [h5]))]
            rw [if_pos h5] at hQ
            refine ⟨_, LenV_l (.of hL3), ?_⟩
            rw [List.length_map]
            by_cases h6 : ws.length = 3
            · rw [if_pos (decide_eq_true (by omega))]
              refine ⟨p, _, 2, _, rfl, rfl, .of hL3, at_ws (i := 2) (by omega), _, rfl, Nat.le_trans (hw 2) (by decide), fun H4 s4 => ⟨_, rfl, ?_⟩⟩
              have hL4 := s4 _ _ hL3
              cases h7 : lawCount (wordAt ws 2) with
              | false =>
                rw [if_neg (fun z => by rw [h7] at z; cases z.2)] at hQ
                exact hQ _ _ (s13.trans s4) .non
              | true =>
                rw [if_pos ⟨h6, h7⟩] at hQ
                rw [if_pos rfl]
                refine ⟨p, _, 1, _, rfl, rfl, .of hL4, at_ws (i := 1) (by omega), p, _, 2, _, rfl, rfl, .of hL4, at_ws (i := 2) (by omega), _, rfl, _, count_int h7 (hw 2), Nat.le_trans (hw 2) (by decide), by decide, fun r hr => ?_⟩
                exact hQ (.ref r) _ (sameNew (s13.trans s4) hr) (Deed.mk_take upd_same)
            · rw [if_neg (by rw [decide_eq_true_eq]; omega)]
              rw [if_neg (fun z => h6 z.1)] at hQ
              exact hQ _ _ s13 .non
          · rw [if_neg (by rw [decide_eq_true_eq]; exact fun z => h5 (V.str.inj z))]
            rw [if_neg h5] at hQ
            have ec : cutV (ws.map V.str) (some 2) none = (ws.drop 2).map V.str := cut_from (k := 2) (by omega)
            refine ⟨_, rfl, _, rfl, p, _, rfl, .of hL3, fun q hq => ⟨q, rfl, ⟨_, .of upd_same⟩, fun D hD => ?_⟩⟩
            rw [ec] at hD ⊢
            have hdl : (ws.drop 2).length ≤ sizeLine := by rw [List.length_drop]; omega
            refine lc_mapD vrD (l := ws.drop 2) (f := V.str) walk_list hD hdl (fun H' s' => .of (s' _ _ upd_same)) (fun y hy H4 Kt s4 ht => ?_) (fun acc H4 s4 e4 t4 => ?_)
            · have hy2 : y ∈ ws := List.mem_of_mem_drop hy
              exact ⟨rfl, _, rfl, y, rfl, hlong y hy2, fun p' H5 s5 hp' => ht _ _ s5 (mk_vr hp')⟩
            · have s14 : Same H H4 := (sameNew s13 hq).trans s4
              have hL4 : H4 p = some (.lst (ws.map V.str)) := s4 _ _ (by rw [upd_ne (ne_of_none hL3 hq)]; exact hL3)
              have hal : acc.length = (ws.drop 2).length := by rw [t4.length, List.length_map]
              refine ⟨_, rfl, D, rfl, ⟨_, .of e4⟩, fun D2 hD2 => ?_⟩
              generalize ws.drop 2 = us at hQ t4 hal hdl
              have bits : ∀ (i : Nat) (x : V), acc[i]? = some x → ∃ y, us[i]? = some y ∧ ∃ a, x = .ref a ∧ H4 a = some (.tup [.bl (lawVR y).1, (lawVR y).2.v]) := fun i x hx => by
                obtain ⟨dd, hdd, td⟩ := t4.get hx
                rw [List.getElem?_map] at hdd
                cases z : us[i]? with
                | none => rw [z] at hdd; cases hdd
                | some y =>
                  rw [z] at hdd
                  cases hdd
                  exact ⟨y, rfl, of_vr td⟩
              refine lc_grow (walk_list (xs := acc)) hD2 (by omega) (fun i ac _ => ac = ((us.take i).filter fun y => !(lawVR y).1).map fun _ => V.int 1) rfl (fun _ _ _ _ e _ _ => e) (fun H' s' => .of (s' _ _ e4)) (fun i x H5 H5' ac Kt Kf hi sm _ ea hy ht hf => ?_) (fun ac H5 s5 e5 p5 => ?_)
              · obtain ⟨rfl, hx⟩ := hy
                obtain ⟨y, hy, a, rfl, ha⟩ := bits i x hx
                refine ⟨rfl, _, rfl, a, _, 0, _, rfl, rfl, .of (sm _ _ ha), atI_nat (j := 0) rfl, _, rfl, ?_⟩
                cases h8 : (lawVR y).1 with
                | true =>
                  refine hf _ (Same.refl _) ?_
                  rw [ea, List.take_add_one, hy, Option.toList_some, List.filter_append, List.map_append]
                  simp [h8]
                | false =>
                  rw [Bool.not_false, if_pos rfl]
                  refine ht _ _ (Same.refl _) ?_
                  rw [ea, List.take_add_one, hy, Option.toList_some, List.filter_append, List.map_append]
                  simp [h8]
              · rw [hal, List.take_length] at p5
                refine ⟨Nat.zero_le _, fun q2 hq2 => ⟨D2, q2, (us.filter fun y => !(lawVR y).1).map fun _ => 1, rfl, rfl, .of ?_, .of upd_same, _, rfl, ?_⟩⟩
                · rw [upd_ne (ne_of_none e5 hq2), e5, p5, List.map_map]
                  rfl
                have s15 : Same H (upd H5 q2 (.lst [])) := sameNew (s14.trans s5) hq2
                have s45 : Same H4 (upd H5 q2 (.lst [])) := sameNew s5 hq2
                by_cases h9 : us.all (fun y => (lawVR y).1) = true
                · rw [if_pos h9] at hQ
                  have ee : (us.filter fun y => !(lawVR y).1) = [] := by
                    rw [List.filter_eq_nil_iff]
                    intro y hy
                    rw [List.all_eq_true.mp h9 y hy]
                    decide
                  rw [ee, if_neg (by decide)]
                  generalize upd H5 q2 (.lst []) = H6 at s15 s45
                  refine ⟨p, _, 1, _, rfl, rfl, .of (s45 _ _ hL4), at_ws (i := 1) (by omega), _, rfl, D, rfl, ⟨_, .of (s45 _ _ e4)⟩, fun D3 hD3 => ?_⟩
                  refine lc_grow (walk_list (xs := acc)) hD3 (by omega) (fun i ac _ => ac = (us.take i).map fun y => (lawVR y).2.v) rfl (fun _ _ _ _ e _ _ => e) (fun H' s' => .of (s' _ _ (s45 _ _ e4))) (fun i x H7 H7' ac Kt Kf hi sm _ ea hy ht hf => ?_) (fun ac H7 s7 e7 p7 => ?_)
                  · obtain ⟨rfl, hx⟩ := hy
                    obtain ⟨y, hy, a, rfl, ha⟩ := bits i x hx
                    refine ⟨a, _, rfl, .of (sm _ _ (s45 _ _ ha)), rfl, _, _, rfl, _, _, rfl, rfl, rfl, _, rfl, ht _ _ (Same.refl _) ?_⟩
                    rw [ea, List.take_add_one, hy, List.map_append]
                    rfl
                  · rw [hal, List.take_length] at p7
                    refine ⟨D3, rfl, _, .inl ⟨.of e7, fun l hl => ⟨by decide, fun r hr => ?_⟩⟩⟩
                    have nlr : l ≠ r := ne_of_none upd_same hr
                    refine hQ (.ref r) _ (sameNew (sameNew (s15.trans s7) hl) hr) (Deed.mk_put upd_same ?_)
                    rw [upd_ne nlr, upd_same, p7, List.map_map]
                    rfl
                · rw [if_neg h9] at hQ
                  have ee : (us.filter fun y => !(lawVR y).1) ≠ [] := fun z => h9 (by
                    rw [List.filter_eq_nil_iff] at z
                    rw [List.all_eq_true]
                    intro y hy
                    have q := z y hy
                    cases h : (lawVR y).1 with
                    | true => rfl
                    | false => rw [h] at q; exact absurd rfl q)
                  cases h10 : us.filter fun y => !(lawVR y).1 with
                  | nil => exact absurd h10 ee
                  | cons y ys => exact hQ _ _ s15 .non
      · rw [decide_eq_false h3]
        rw [if_pos (Or.inr (Or.inl h3))] at hQ
        exact hQ _ _ s2 .non
end
end K96

namespace K96
open PySem PySem.Spec PyProof.Rows L2 G96 TL
local macro_rules | `(tactic| walk_at "rd") => `(tactic| simp only [tSeq, tIfS, tOr, tAnd, tNot, tB, tCB, tCons, tNil, tVar, tC, tTest, tChain, rI0, tRet, tOp, tCall, tAsg, gName, tNext, tDrop, tIf, tAndV, tOrV, tNotV, tIsN, tNotN, tM0, tM1, tSl, tPart, tNoPart, rSlS, rEq, rNe, scal_ss, scal_ii, scal_bb, LenV_s, rIsStr, isStr_s, isStr_n, isStr_b, isStr_i, rInt1, tTup, tLst, tFmt, tUn, L2.start, List.map_cons, List.map_nil, List.length_cons, List.length_nil, List.replicate_succ, List.replicate_zero, List.cons_append, List.nil_append, List.append_nil, Nat.reduceAdd, Nat.reduceSub, Nat.sub_self, List.getElem?_cons_zero, List.getElem?_cons_succ, List.set_cons_zero, List.set_cons_succ, Option.some.injEq, exists_eq_left', exists_eq_left, and_assoc, exists_and_left, exists_eq', List.cons.injEq, true_and, and_true, V.int.injEq, V.str.injEq, V.bl.injEq, V.ref.injEq, reduceCtorEq, false_and, and_false, exists_false, or_false, false_or, if_true, if_false, Bool.not_true, Bool.not_false, Bool.false_eq_true, ite_true, ite_false, decide_true, decide_false, eq_self, tJs, rU, gTup, gNil, gCons, StX.tStar, cx_K, must_t, must_f, rNewStrs, rI])
section
variable {P : Program} {w : World} {K : PySem.W.Frag} {mg : Str → Option Value} {base : Heap}
def lawB (x : Str) : Option (List Deed) := if x = "" then some [] else mapO lawD (Txt.split x "\n")
def optB : Option (List Deed) → PyData
  | none => .none
  | some ds => bdata ds
theorem lawVR_str {y z : Str} (h : (lawVR y).1 = true) (e : (lawVR y).2 = .str z) : lawName z = true := by
  unfold lawVR at h e
  split at h
  · rename_i h0
    rw [if_pos h0] at e
    cases e
  · rename_i h0
    rw [if_neg h0] at e
    split at h
    · rename_i h1
      rw [if_pos h1] at e
      simp only [Bool.and_eq_true] at h
      cases e
      exact h.2.2
    · rename_i h1
      rw [if_neg h1] at e
      cases e
def Good : Deed → Prop
  | .put t vs => lawName t = true ∧ ∀ z, Sc.str z ∈ vs → lawName z = true
  | .take t _ => lawName t = true
theorem lawD_good {x : Str} {d : Deed} (h : lawD x = some d) : Good d := by
  unfold lawD at h
  simp only at h
  split at h
  · cases h
  · rename_i h0
    have hn : lawName (wordAt (Txt.split x " ") 1) = true := by
      cases q : lawName (wordAt (Txt.split x " ") 1) with
      | true => rfl
      | false => exact absurd (Or.inr (Or.inr q)) h0
    split at h
    · split at h
      · cases h
        exact hn
      · cases h
    · split at h
      · rename_i h3
        cases h
        refine ⟨hn, fun z hz => ?_⟩
        obtain ⟨y, hy, e⟩ := List.mem_map.mp hz
        exact lawVR_str (List.all_eq_true.mp h3 y hy) e
      · cases h
theorem canLay_list : ∀ {ds : List PyData}, (∀ d ∈ ds, PyData.canLay0 d = true) → PyData.canLayAll0 ds = true
  | [], _ => rfl
  | d :: ds, h => by
    simp only [PyData.canLayAll0, h d List.mem_cons_self, canLay_list fun x hx => h x (List.mem_cons_of_mem _ hx), Bool.and_self]
theorem depth_list {n : Nat} : ∀ {ds : List PyData}, (∀ d ∈ ds, PyData.depth d ≤ n) → PyData.depthAll ds ≤ n
  | [], _ => Nat.zero_le _
  | d :: ds, h => by
    have h1 := h d List.mem_cons_self
    have h2 := depth_list fun x hx => h x (List.mem_cons_of_mem d hx)
    simp only [PyData.depthAll]
    omega
theorem good_lay {d : Deed} (h : Good d) : PyData.canLay0 d.d = true ∧ PyData.depth d.d ≤ 2 := by
  cases d with
  | put t vs =>
    have e1 := strOk_name h.1
    have e2 : PyData.canLayAll0 (vs.map Sc.d) = true := canLay_list fun d hd => by
      obtain ⟨c, hc, rfl⟩ := List.mem_map.mp hd
      cases c with
      | non => rfl
      | int i => rfl
      | str z => exact strOk_name (h.2 z hc)
    have e3 : PyData.depthAll (vs.map Sc.d) ≤ 0 := depth_list fun d hd => by
      obtain ⟨c, hc, rfl⟩ := List.mem_map.mp hd
      cases c <;> exact Nat.le_refl _
    refine ⟨?_, ?_⟩
    · simp only [Deed.d, PyData.canLay0, PyData.canLayAll0, e1, e2, Bool.and_true, Bool.true_and]
      decide +kernel
    · simp only [Deed.d, PyData.depth, PyData.depthAll]
      omega
  | take t n =>
    have e1 := strOk_name h
    refine ⟨?_, ?_⟩
    · simp only [Deed.d, PyData.canLay0, PyData.canLayAll0, e1, Bool.and_true, Bool.true_and]
      decide +kernel
    · simp only [Deed.d, PyData.depth, PyData.depthAll]
      omega
theorem opt_shaped (l : List Str) : SeqAt.shaped (.list (l.map fun y => optD (lawD y))) = true := by
  have g : ∀ d ∈ l.map (fun y => optD (lawD y)), PyData.canLay0 d = true ∧ PyData.depth d ≤ 2 := fun d hd => by
    obtain ⟨y, _, rfl⟩ := List.mem_map.mp hd
    cases q : lawD y with
    | none => exact ⟨rfl, Nat.zero_le _⟩
    | some d => exact good_lay (lawD_good q)
  unfold SeqAt.shaped
  rw [Bool.and_eq_true]
  refine ⟨?_, decide_eq_true ?_⟩
  · simp only [PyData.canLay0]
    exact canLay_list fun d hd => (g d hd).1
  · simp only [PyData.depth]
    have q := depth_list (n := 2) fun d hd => (g d hd).2
    omega
theorem any_none : ∀ (l : List Str), ((l.map fun y => optD (lawD y)).any fun z => PyData.eqv z .none) = (mapO lawD l).isNone
  | [] => rfl
  | y :: l => by
    rw [List.map_cons, List.any_cons, any_none l, mapO]
    cases h : lawD y with
    | none => simp only [optD, PyData.eqv, Bool.true_or]; rfl
    | some d =>
      have e : PyData.eqv (optD (some d)) .none = false := by cases d <;> rfl
      rw [e, Bool.false_or]
      cases mapO lawD l <;> rfl
theorem map_opt : ∀ {l : List Str} {ds : List Deed}, mapO lawD l = some ds → (l.map fun y => optD (lawD y)) = ds.map Deed.d
  | [], ds, h => by cases h; rfl
  | y :: l, ds, h => by
    unfold mapO at h
    split at h
    · rename_i d zs e1 e2
      cases h
      rw [List.map_cons, List.map_cons, map_opt e2, e1]
      rfl
    · cases h
def sp_law_batch_read : Sp := fun vs H Q _ => ∃ x : Str, vs = [.str x] ∧ TextOk x ∧ ∀ v H', Same H H' → TD H' v (optB (lawB x)) → Q v H'
theorem ok_law_batch_read (Z : Tx K mg base) : OkC P w K mg base L2.CX0 4 "_law_batch_read" ["it"] sp_law_batch_read := by
  refine mk0_law_batch_read Z sc_law_batch_read (fun vs H Q E h => ?_) (fun cdv A outer s H vs Q E hr h => ?_)
  · obtain ⟨x, rfl, _⟩ := h
    rfl
  · obtain ⟨x, rfl, hx, hQ⟩ := h
    have hu : (A.deeper (envOfC (Str.ofString "_law_batch_read") (defScope s_law_batch_read) s.heap.objs.size (He.ga K (Str.ofString "_law_batch_read")) cdv)).units + 65 < cLine := by have := hr.un; omega
    refine ⟨_, (pss_cons (ps_if (pt_cmpR op_eq (pv 0) pe_str (nomark _)) (pss_one (ps_ret (pe_tup pa_nil))) pss_nil)
    (pss_cons (ps_setLc (i := 1) (own := [("line", 2)]) (g := gName 2) (tt := tYes) rfl sc_law_batch_read.nd rfl rfl (sw_true rfl rfl rfl (by decide +kernel)) (pi_list (pe_m1 PySem.F.slot_str_split PySem.F.type_str_split mt_splitF (pv 0) pe_str)) (blkOk_by (own := [("line", 2)]) (N := ["it", "found", "line"]) (sc := defScope s_law_batch_read) (by decide +kernel)) (fun _ _ _ _ _ => (pg_name (i := 2) sc_law_batch_read.nd rfl (Or.inl rfl))) (fun _ _ _ _ _ => pts_nil) (fun _ _ _ _ _ => (pe_c (ok_law_read Z) hr (by decide) rfl pass0 (pa_cons (pv 2) pa_nil))))
    (pss_one (ps_ret (pe_ifExp (pt_cmpR (op_notInD hu) pe_non (pv 1) (by rfl)) (pe_callTy call_tuple_of (by rfl) Z.n_tuple (by decide +kernel) (pa_cons (pv 1) pa_nil)) pe_non))))), ?_⟩
    walk_at "rd"
    have z5 : (5002 : Nat) ≤ sizeLine := by decide
    have hl5 := hx.1
    by_cases h0 : x = ""
    · rw [if_pos (decide_eq_true h0)]
      rw [show lawB x = some [] from if_pos h0] at hQ
      exact ⟨Nat.zero_le _, fun p hp => hQ _ _ (same_new hp) (.tup upd_same .nil)⟩
    rw [if_neg (by simpa using h0)]
    rw [show lawB x = mapO lawD (Txt.split x "\n") from if_neg h0] at hQ
    refine ⟨_, rfl, ⟨_, rfl⟩, x, "\n", rfl, rfl, by decide +kernel, by omega, fun p hp => ⟨p, rfl, ⟨_, .of upd_same⟩, fun D hD => ?_⟩⟩
    have hlen := split_len x (Str.ofString "\n")
    refine lc_mapD (fun y => optD (lawD y)) (l := Txt.split x "\n") (f := V.str) walk_list hD (by exact Nat.le_trans hlen (by omega)) (fun H' s' => .of (s' _ _ upd_same)) (fun y hy H3 Kt s3 ht => ?_) (fun acc H4 s4 e4 t4 => ?_)
    · exact ⟨rfl, _, rfl, y, rfl, hx.2.2 y hy, fun v H5 s5 t5 => ht v H5 s5 t5⟩
    · have s14 : Same H H4 := (same_new hp).trans s4
      refine ⟨.none, _, .non, .lst (.of e4) (TDs.dp t4), by decide +kernel, opt_shaped _, _, rfl, ?_⟩
      rw [any_none]
      cases h1 : mapO lawD (Txt.split x "\n") with
      | none =>
        rw [h1] at hQ
        exact hQ _ _ s14 .non
      | some ds =>
        rw [h1] at hQ
        rw [map_opt h1] at t4
        rw [if_pos (by rfl)]
        exact ⟨D, rfl, acc, .inl ⟨.of e4, fun l hl => hQ _ _ (sameNew s14 hl) (.tup upd_same (t4.mono (tupsOf (same_new hl))))⟩⟩
end
end K96

namespace K96
open PySem PySem.Spec PyProof.Rows L2 G96 TL
theorem count_len {cs : List Nat} (h : CountL cs) (hv : NumText.digitsVal cs ≤ 1000000000000) : cs.length ≤ 13 := by
  have q := (num_of_count _ cs rfl h).1
  rw [q]
  exact numL_len (by decide) (by omega)
theorem intV_count {x : Str} (h : CountL (tl x)) (hl : x.length ≤ 600) : intV x = ((NumText.digitsVal (tl x) : Nat) : Int) := by
  unfold intV
  rw [count_val h (by omega)]
  rfl
theorem intV_neg {x : Str} {ds : List Nat} (e : tl x = 45 :: ds) (h : NumText.AllDigits ds) (hn : ds ≠ []) (hl : x.length ≤ 600) : intV x = -((NumText.digitsVal ds : Nat) : Int) := by
  unfold intV
  rw [neg_val e h hn (by omega)]
  rfl
theorem number_iff {x : Str} (hl : x.length ≤ 600) : (itextS x = true ∧ x.length ≤ 14 ∧ (intV x).natAbs ≤ 1000000000000) ↔ (lawRight x = true ∧ -1000000000000 ≤ intV x ∧ intV x ≤ 1000000000000) := by
  rw [itext_iff, lawRight_iff]
  have hx := len_tl x
  constructor
  · rintro ⟨h | ⟨ds, e, h1, h2, h3⟩, hl14, hb⟩
    · have v := intV_count h hl
      have c := count_len h (by rw [v] at hb; omega)
      exact ⟨.inl ⟨h, by omega⟩, by omega, by omega⟩
    · have v := intV_neg e h1 h2 hl
      have c := count_len (cs := ds) ⟨h2, h1, .inr h3⟩ (by rw [v] at hb; omega)
      exact ⟨.inr ⟨ds, e, h1, h2, h3, by omega⟩, by omega, by omega⟩
  · rintro ⟨⟨h, c⟩ | ⟨ds, e, h1, h2, h3, c⟩, hb1, hb2⟩
    · exact ⟨.inl h, by omega, by omega⟩
    · refine ⟨.inr ⟨ds, e, h1, h2, h3⟩, ?_, by omega⟩
      rw [e, List.length_cons] at hx
      omega
theorem ends_one {x : Str} {c : Nat} (hx0 : x.length ≠ 0) : Txt.endswith x ⟨#[c]⟩ = decide (x.cps.toList.getLastD 0 = c) := by
  have hx := len_tl x
  have q := PySem.StrLaws.subAt_one x c (x.length - 1)
  have e : Txt.endswith x ⟨#[c]⟩ = (decide (0 + (⟨#[c]⟩ : Str).length ≤ x.length) && PySem.Builtin.Str.subAt x ⟨#[c]⟩ (x.length - 1)) := rfl
  have l1 : (⟨#[c]⟩ : Str).length = 1 := rfl
  have g : x.cps.toList[x.length - 1]? = some (x.cps.toList.getLastD 0) := by
    obtain ⟨ini, d, hd⟩ : ∃ ini d, tl x = ini ++ [d] := by
      have ne : tl x ≠ [] := fun z => by rw [z] at hx; exact hx0 hx
      exact ⟨(tl x).dropLast, (tl x).getLast ne, (List.dropLast_concat_getLast ne).symm⟩
    have hd' : x.cps.toList = ini ++ [d] := hd
    rw [hd, List.length_append, List.length_singleton] at hx
    rw [hd', List.getLastD_concat, List.getElem?_append_right (by omega), show x.length - 1 - ini.length = 0 by omega]
    rfl
  rw [g] at q
  rw [e, decide_eq_true (show 0 + (⟨#[c]⟩ : Str).length ≤ x.length by omega), Bool.true_and, Bool.eq_iff_iff, decide_eq_true_eq]
  constructor
  · intro h
    exact Option.some.inj (q.mp ⟨by omega, h⟩)
  · intro h
    exact (q.mpr (by rw [h])).2
theorem inner_len {x : Str} (h : 0 < (cutS x (some 1) (some (-1))).length) : 2 < x.length := by
  have e : tl (cutS x (some 1) (some (-1))) = ((tl x).drop (HT.sIx x.length 0 (some ((1 : Nat) : Int)))).take (HT.sIx x.length x.length (some (-1)) - HT.sIx x.length 0 (some ((1 : Nat) : Int))) := tl_cut' x _ _
  have e2 : HT.sIx x.length x.length (some (-1)) = x.length - 1 := by
    show (if (-1 : Int) < 0 then ((-1 : Int) + (x.length : Int)).toNat else min (-1 : Int).toNat x.length) = x.length - 1
    rw [if_pos (by decide)]
    omega
  rw [len_tl, e, e2, HT.sIx_nat, List.length_take] at h
  omega
theorem readV_law {x : Str} (hl : x.length ≤ 600) : readV x = if (lawVR x).1 = true then some (lawVR x).2 else none := by
  unfold readV lawVR
  by_cases h0 : x = "nothing"
  · rw [if_pos h0, if_pos h0]
    rfl
  rw [if_neg h0, if_neg h0]
  rw [show ("\"" : Str) = ⟨#[34]⟩ from s_quote, starts_one]
  by_cases h1 : (tl x).head? = some 34
  · rw [if_pos (cut_head.mpr h1), decide_eq_true h1]
    have hx0 : x.length ≠ 0 := fun z => by
      rw [len_tl] at z
      rw [List.length_eq_zero_iff.mp z] at h1
      cases h1
    have nn : readN x = none := by
      refine if_neg fun z => ?_
      rcases itext_iff.mp z.1 with h | ⟨ds, e, _⟩
      · cases hc : tl x with
        | nil => exact h.1 hc
        | cons c r =>
          rw [hc] at h1 h
          cases h1
          have := h.2.1 34 List.mem_cons_self
          omega
      · rw [e] at h1
        cases h1
    have last : ((⟨#[x.cps.toList.getLastD 0]⟩ : Str) = ⟨#[34]⟩) ↔ x.cps.toList.getLastD 0 = 34 := ⟨fun z => by have q := congrArg tl z; exact (List.cons.inj q).1, fun z => by rw [z]⟩
    rw [ends_one hx0, name_eq]
    show _ = if (decide (2 < x.length) && (decide ((⟨#[x.cps.toList.getLastD 0]⟩ : Str) = ⟨#[34]⟩) && lawName (cutS x (some 1) (some (-1))))) = true then some (Sc.str (cutS x (some 1) (some (-1)))) else none
    by_cases h2 : x.cps.toList.getLastD 0 = 34
    · rw [decide_eq_true h2, decide_eq_true (last.mpr h2)]
      by_cases h3 : 1 < x.length
      · rw [if_pos ⟨h3, rfl, rfl⟩]
        cases h4 : lawName (cutS x (some 1) (some (-1))) with
        | true =>
          have h5 := inner_len (lawName_iff.mp h4).1
          rw [if_pos rfl, decide_eq_true h5]
          rfl
        | false =>
          rw [if_neg (by decide), if_neg (by rw [Bool.and_false, Bool.and_false]; decide)]
      · rw [if_neg (fun z => h3 z.1), nn, if_neg (by rw [decide_eq_false (by omega), Bool.false_and]; decide)]
        rfl
    · rw [decide_eq_false h2, if_neg (fun z => by cases z.2.2), nn, if_neg (by rw [decide_eq_false (fun z => h2 (last.mp z)), Bool.false_and, Bool.and_false]; decide)]
      rfl
  · rw [if_neg (fun z => h1 (cut_head.mp z)), decide_eq_false h1, if_neg (fun z => by cases z.2.1)]
    show (readN x).map Sc.int = if (lawRight x && decide (-1000000000000 ≤ (if lawRight x = true then intV x else 0) ∧ (if lawRight x = true then intV x else 0) ≤ 1000000000000)) = true then some (Sc.int (if lawRight x = true then intV x else 0)) else none
    unfold readN
    have q := number_iff hl
    cases hr : lawRight x with
    | false =>
      rw [hr] at q
      rw [if_neg (fun z => by have := (q.mp z).1; cases this), if_neg (by rw [Bool.false_and]; decide)]
      rfl
    | true =>
      rw [hr] at q
      have e1 : (if true = true then intV x else 0) = intV x := if_pos rfl
      rw [e1, Bool.true_and]
      by_cases hb : -1000000000000 ≤ intV x ∧ intV x ≤ 1000000000000
      · rw [if_pos (q.mpr ⟨rfl, hb⟩), decide_eq_true hb]
        rfl
      · rw [if_neg (fun z => hb (q.mp z).2), decide_eq_false hb]
        rfl
theorem mapO_readV : ∀ {l : List Str}, (∀ y ∈ l, y.length ≤ 600) → mapO readV l = if l.all (fun y => (lawVR y).1) = true then some (l.map fun y => (lawVR y).2) else none
  | [], _ => rfl
  | y :: l, h => by
    unfold mapO
    rw [mapO_readV fun z hz => h z (List.mem_cons_of_mem _ hz), readV_law (h y List.mem_cons_self), List.all_cons]
    cases h1 : (lawVR y).1 with
    | false => rfl
    | true =>
      cases h2 : l.all (fun y => (lawVR y).1) with
      | false => rfl
      | true => rfl
theorem wordAt_len {ws : List Str} (h : ∀ y ∈ ws, y.length ≤ 600) (i : Nat) : (wordAt ws i).length ≤ 600 := by
  unfold wordAt
  by_cases hi : i < ws.length
  · rw [List.getElem?_eq_getElem hi]
    exact h _ (List.getElem_mem hi)
  · rw [List.getElem?_eq_none (by omega)]
    exact Nat.zero_le _
theorem readD_line {x : Str} (h : ∀ y ∈ Txt.split x (Str.ofString " "), y.length ≤ 600) : readD x = lawD x := by
  unfold readD lawD
  generalize Txt.split x (Str.ofString " ") = ws at h
  show (if 2 < ws.length ∧ nameS (wordAt ws 1) = true then (if wordAt ws 0 = "put" then (mapO readV (ws.drop 2)).map (Deed.put (wordAt ws 1)) else if wordAt ws 0 = "take" ∧ ws.length = 3 ∧ countS (wordAt ws 2) = true then some (.take (wordAt ws 1) (intV (wordAt ws 2))) else none) else none)
    = if ws.length < 3 ∨ ¬ (wordAt ws 0 = "put" ∨ wordAt ws 0 = "take") ∨ lawName (wordAt ws 1) = false then none
      else if wordAt ws 0 = "take" then (if ws.length = 3 ∧ lawCount (wordAt ws 2) = true then some (.take (wordAt ws 1) (intV (wordAt ws 2))) else none)
      else if (ws.drop 2).all (fun y => (lawVR y).1) = true then some (.put (wordAt ws 1) ((ws.drop 2).map fun y => (lawVR y).2)) else none
  have hM := mapO_readV (l := ws.drop 2) fun y hy => h y (List.mem_of_mem_drop hy)
  rw [name_eq, countS_eq]
  generalize mapO readV (ws.drop 2) = M at hM ⊢
  have pt : ¬ (("put" : Str) = "take") := by decide +kernel
  by_cases h1 : 2 < ws.length ∧ lawName (wordAt ws 1) = true
  · have n1 : ¬ (ws.length < 3) := by omega
    have n2 : ¬ (lawName (wordAt ws 1) = false) := fun z => by rw [h1.2] at z; cases z
    by_cases h2 : wordAt ws 0 = "put"
    · have n3 : ¬ (wordAt ws 0 = "take") := fun z => pt (h2.symm.trans z)
      have n4 : ¬ (ws.length < 3 ∨ ¬ (wordAt ws 0 = "put" ∨ wordAt ws 0 = "take") ∨ lawName (wordAt ws 1) = false) := fun z => z.elim n1 fun z => z.elim (fun z => z (.inl h2)) n2
      rw [if_pos h1, if_pos h2, if_neg n4, if_neg n3, hM]
      cases (ws.drop 2).all (fun y => (lawVR y).1) <;> rfl
    · by_cases h3 : wordAt ws 0 = "take"
      · have n4 : ¬ (ws.length < 3 ∨ ¬ (wordAt ws 0 = "put" ∨ wordAt ws 0 = "take") ∨ lawName (wordAt ws 1) = false) := fun z => z.elim n1 fun z => z.elim (fun z => z (.inr h3)) n2
        rw [if_pos h1, if_neg h2, if_neg n4, if_pos h3]
        by_cases h4 : ws.length = 3 ∧ lawCount (wordAt ws 2) = true
        · rw [if_pos h4, if_pos ⟨h3, h4⟩]
        · rw [if_neg h4, if_neg (fun z => h4 z.2)]
      · have y4 : ws.length < 3 ∨ ¬ (wordAt ws 0 = "put" ∨ wordAt ws 0 = "take") ∨ lawName (wordAt ws 1) = false := .inr (.inl (fun z => z.elim h2 h3))
        rw [if_pos h1, if_neg h2, if_pos y4, if_neg (fun z => h3 z.1)]
  · have y4 : ws.length < 3 ∨ ¬ (wordAt ws 0 = "put" ∨ wordAt ws 0 = "take") ∨ lawName (wordAt ws 1) = false := by
      by_cases h2 : ws.length < 3
      · exact .inl h2
      · refine .inr (.inr ?_)
        cases h3 : lawName (wordAt ws 1) with
        | false => rfl
        | true => exact absurd ⟨by omega, h3⟩ h1
    rw [if_neg h1, if_pos y4]
theorem readD_law {x : Str} (h : TextA 400 5000 x) : readD x = lawD x := readD_line fun y hy => Nat.le_trans (h.word_len hy) (by decide)
theorem mapO_congr {α β : Type} {f g : α → Option β} : ∀ {l : List α}, (∀ y ∈ l, f y = g y) → mapO f l = mapO g l
  | [], _ => rfl
  | y :: l, h => by
    unfold mapO
    rw [h y List.mem_cons_self, mapO_congr fun z hz => h z (List.mem_cons_of_mem _ hz)]
theorem readB_law {x : Str} (h : TextA 400 5000 x) : readB x = lawB x := by
  unfold readB lawB
  rw [mapO_congr fun y hy => readD_law (h.lines hy)]
end K96

namespace K96
open PySem PySem.Spec PyProof.Rows L2 G96 TL
theorem spl_ne (s : Nat) : ∀ (l acc : List Nat), spl [s] 0 acc l ≠ []
  | [], acc => by rw [spl_nil]; exact List.cons_ne_nil _ _
  | c :: r, acc => by
    by_cases hc : c = s
    · subst hc
      rw [spl_hit (by unfold pre; simp)]
      exact List.cons_ne_nil _ _
    · rw [spl_miss (by unfold pre; simp [hc])]
      exact spl_ne s r _
theorem join_spl (s : Nat) : ∀ (l acc : List Nat), joinL [s] (spl [s] 0 acc l) = acc ++ l
  | [], acc => by
    rw [spl_nil, List.append_nil]
    rfl
  | c :: r, acc => by
    by_cases hc : c = s
    · subst hc
      rw [spl_hit (by unfold pre; simp)]
      have ih := join_spl c r []
      have ne := spl_ne c r []
      show joinL [c] (acc :: spl [c] 0 [] r) = acc ++ c :: r
      cases h : spl [c] 0 [] r with
      | nil => exact absurd h ne
      | cons p q =>
        rw [h] at ih
        show acc ++ ([c] ++ joinL [c] (p :: q)) = _
        rw [ih]
        rfl
    · rw [spl_miss (by unfold pre; simp [hc]), join_spl s r (acc ++ [c]), List.append_assoc]
      rfl
theorem join_split (x : Str) {y : Str} {s : Nat} (ey : tl y = [s]) (hs : s < 256) : Txt.join y (Txt.split x y) = x := by
  refine ext_tl ?_
  rw [join_eq, tl_join, split_spl x y (by rw [ey]; simp) (kind_ok (by
    have e : y.cps = #[s] := by rw [← ey]
    rw [e]
    simp [hs])), ey, join_spl, List.nil_append]
theorem show_count {x : Str} (h : CountL (tl x)) (hl : x.length ≤ 600) : Str.ofString (toString (intV x)) = x := by
  refine ext_tl ?_
  rw [intV_count h hl, tl_num]
  exact (num_of_count _ _ rfl h).1.symm
theorem show_number {x : Str} (h : lawRight x = true) (hl : x.length ≤ 600) : Str.ofString (toString (intV x)) = x := by
  rcases lawRight_iff.mp h with ⟨h, _⟩ | ⟨ds, e, h1, h2, h3, _⟩
  · exact show_count h hl
  · refine ext_tl ?_
    obtain ⟨q1, q2⟩ := num_of_count ds.length ds rfl ⟨h2, h1, .inr h3⟩
    have q2 := q2 h3
    rw [intV_neg e h1 h2 hl, tl_int, if_pos (by omega), e, Int.natAbs_neg, Int.natAbs_natCast, ← q1]
theorem quoted {x : Str} (h1 : (tl x).head? = some 34) (h2 : x.cps.toList.getLastD 0 = 34) (h3 : 2 < x.length) : Str.ofString "\"" ++ cutS x (some 1) (some (-1)) ++ Str.ofString "\"" = x := by
  have hx := len_tl x
  refine ext_tl ?_
  obtain ⟨mid, hm⟩ : ∃ mid, tl x = 34 :: (mid ++ [34]) := by
    cases h : tl x with
    | nil => rw [h] at h1; cases h1
    | cons c r =>
      rw [h] at h1 hx
      cases h1
      have ne : r ≠ [] := fun z => by
        rw [z] at hx
        simp at hx
        omega
      obtain ⟨ini, d, rfl⟩ : ∃ ini d, r = ini ++ [d] := ⟨r.dropLast, r.getLast ne, (List.dropLast_concat_getLast ne).symm⟩
      have h' : x.cps.toList = (34 :: ini) ++ [d] := h
      rw [h', List.getLastD_concat] at h2
      rw [h2]
      exact ⟨ini, rfl⟩
  have hl : x.length = mid.length + 2 := by rw [hx, hm, List.length_cons, List.length_append, List.length_singleton]
  have e : tl (cutS x (some 1) (some (-1))) = ((tl x).drop (HT.sIx x.length 0 (some ((1 : Nat) : Int)))).take (HT.sIx x.length x.length (some (-1)) - HT.sIx x.length 0 (some ((1 : Nat) : Int))) := tl_cut' x _ _
  have e2 : HT.sIx x.length x.length (some (-1)) = x.length - 1 := by
    show (if (-1 : Int) < 0 then ((-1 : Int) + (x.length : Int)).toNat else min (-1 : Int).toNat x.length) = x.length - 1
    rw [if_pos (by decide)]
    omega
  rw [e2, HT.sIx_nat, show min 1 x.length = 1 by omega, show x.length - 1 - 1 = mid.length by omega, hm] at e
  have e3 : tl (cutS x (some 1) (some (-1))) = mid := by
    rw [e]
    show List.take mid.length (mid ++ [34]) = mid
    rw [List.take_left]
  rw [tl_append, tl_append, e3, hm, show tl (Str.ofString "\"") = [34] by decide +kernel]
  rfl
theorem showC_law {y : Str} (h : (lawVR y).1 = true) (hl : y.length ≤ 600) : showC (lawVR y).2 = y ∧ Sc.Ok (lawVR y).2 := by
  unfold lawVR at h ⊢
  by_cases h0 : y = "nothing"
  · rw [if_pos h0]
    exact ⟨h0.symm, trivial⟩
  rw [if_neg h0] at h ⊢
  by_cases h1 : cutS y none (some 1) = "\""
  · rw [if_pos h1] at h ⊢
    simp only [Bool.and_eq_true, decide_eq_true_eq] at h
    obtain ⟨h2, h3, h4⟩ := h
    rw [show ("\"" : Str) = ⟨#[34]⟩ from s_quote] at h1 h3
    refine ⟨quoted (cut_head.mp h1) ?_ h2, ?_⟩
    · exact (List.cons.inj (congrArg tl h3)).1
    · have := (lawName_iff.mp h4).2.1
      show (cutS y (some 1) (some (-1))).length ≤ 8
      omega
  · rw [if_neg h1] at h ⊢
    simp only [Bool.and_eq_true, decide_eq_true_eq] at h
    obtain ⟨h2, h3, h4⟩ := h
    rw [if_pos h2] at h3 h4
    show showC (Sc.int (if lawRight y = true then intV y else 0)) = y ∧ Sc.Ok (Sc.int (if lawRight y = true then intV y else 0))
    rw [if_pos h2]
    refine ⟨show_number h2 hl, ?_⟩
    show (intV y).natAbs ≤ 1000000000000
    omega
theorem digits_lt : ∀ (n : Nat) (l : List Nat), l.length = n → NumText.AllDigits l → NumText.digitsVal l < 10 ^ l.length
  | 0, l, hn, _ => by
    rw [List.length_eq_zero_iff.mp hn]
    decide
  | n + 1, l, hn, ha => by
    have ne : l ≠ [] := fun z => by rw [z] at hn; cases hn
    obtain ⟨ini, d, rfl⟩ : ∃ ini d, l = ini ++ [d] := ⟨l.dropLast, l.getLast ne, (List.dropLast_concat_getLast ne).symm⟩
    have hd := ha d (List.mem_append_right _ (List.mem_singleton.mpr rfl))
    have hi := digits_lt n ini (by rw [List.length_append, List.length_singleton] at hn; omega) fun x hx => ha x (List.mem_append_left _ hx)
    have hv : NumText.digitsVal (ini ++ [d]) = NumText.digitsVal ini * 10 + (d - 48) := by
      unfold NumText.digitsVal
      rw [List.foldl_append]
      rfl
    rw [hv, List.length_append, List.length_singleton, Nat.pow_succ]
    omega
theorem log_digits {cs : List Nat} (h : CountL cs) (hl : cs.length ≤ 400) : (NumText.digitsVal cs).log2 < 1920 := by
  have q : NumText.digitsVal cs < 10 ^ 400 := by
    exact Nat.lt_of_lt_of_le (digits_lt cs.length cs rfl h.2.1) (Nat.pow_le_pow_right (by decide) hl)
  by_cases h0 : NumText.digitsVal cs = 0
  · rw [h0]
    decide
  · rw [Nat.log2_lt h0]
    refine Nat.lt_trans q ?_
    decide +kernel
theorem lawD_show {x : Str} {d : Deed} (h : TextA 400 5000 x) (e : lawD x = some d) : showD d = x ∧ Deed.Ok d := by
  have hj := join_split x tl_blank (by decide)
  have hlen : ∀ y ∈ Txt.split x (Str.ofString " "), y.length ≤ 400 := fun y hy => h.word_len hy
  have hw := wsum_split x
  have hx := h.len
  unfold lawD at e
  change (if (Txt.split x (Str.ofString " ")).length < 3 ∨ ¬ (wordAt (Txt.split x (Str.ofString " ")) 0 = "put" ∨ wordAt (Txt.split x (Str.ofString " ")) 0 = "take") ∨ lawName (wordAt (Txt.split x (Str.ofString " ")) 1) = false then none
    else if wordAt (Txt.split x (Str.ofString " ")) 0 = "take" then (if (Txt.split x (Str.ofString " ")).length = 3 ∧ lawCount (wordAt (Txt.split x (Str.ofString " ")) 2) = true then some (Deed.take (wordAt (Txt.split x (Str.ofString " ")) 1) (intV (wordAt (Txt.split x (Str.ofString " ")) 2))) else none)
    else if ((Txt.split x (Str.ofString " ")).drop 2).all (fun y => (lawVR y).1) = true then some (Deed.put (wordAt (Txt.split x (Str.ofString " ")) 1) (((Txt.split x (Str.ofString " ")).drop 2).map fun y => (lawVR y).2)) else none) = some d at e
  generalize Txt.split x (Str.ofString " ") = ws at hj hlen hw e
  split at e
  · cases e
  rename_i n0
  have l3 : ¬ ws.length < 3 := fun z => n0 (.inl z)
  have hn : lawName (wordAt ws 1) = true := by
    cases q : lawName (wordAt ws 1) with
    | true => rfl
    | false => exact absurd (.inr (.inr q)) n0
  have hk : wordAt ws 0 = "put" ∨ wordAt ws 0 = "take" := Classical.byContradiction fun z => n0 (.inr (.inl z))
  have l8 : (wordAt ws 1).length ≤ 8 := by
    have := (lawName_iff.mp hn).2.1
    omega
  split at e
  · rename_i ht
    split at e
    · rename_i hc
      cases e
      obtain ⟨a, b, c, rfl⟩ : ∃ a b c, ws = [a, b, c] := by
        match ws, hc.1 with
        | [a, b, c], _ => exact ⟨a, b, c, rfl⟩
      have ha : a = "take" := ht
      have lc : c.length ≤ 400 := hlen c (by simp)
      have cc : CountL (tl c) := lawCount_iff.mp hc.2
      have sc : Str.ofString (toString (intV c)) = c := show_count cc (by omega)
      refine ⟨?_, l8, ?_⟩
      · show Txt.join (Str.ofString " ") [Str.ofString "take", b, Str.ofString (toString (intV c))] = x
        rw [sc, ← hj, ha]
      · show (intV c).natAbs.log2 < 1920
        rw [intV_count cc (by omega), Int.natAbs_natCast]
        exact log_digits cc (by rw [← len_tl]; exact lc)
    · cases e
  · rename_i ht
    split at e
    · rename_i hall
      cases e
      obtain ⟨a, b, rest, rfl⟩ : ∃ a b rest, ws = a :: b :: rest := by
        match ws, l3 with
        | [], z => exact absurd (by decide) z
        | [_], z => exact absurd (by show 1 < 3; decide) z
        | a :: b :: rest, _ => exact ⟨a, b, rest, rfl⟩
      have ha : a = "put" := hk.elim id fun z => absurd z ht
      have each : ∀ y ∈ rest, showC (lawVR y).2 = y ∧ Sc.Ok (lawVR y).2 := fun y hy => showC_law (List.all_eq_true.mp hall y hy) (Nat.le_trans (hlen y (by simp [hy])) (by decide))
      have em : (rest.map fun y => (lawVR y).2).map showC = rest := by
        rw [List.map_map]
        exact (List.map_congr_left fun y hy => (each y hy).1).trans (List.map_id _)
      refine ⟨?_, l8, ?_, fun c hc => ?_⟩
      · show Txt.join (Str.ofString " ") (Str.ofString "put" :: b :: (rest.map fun y => (lawVR y).2).map showC) = x
        rw [em, ← hj, ha]
      · have q := wsum_len (a :: b :: rest)
        rw [hw] at q
        simp only [List.length_cons] at q
        show (rest.map fun y => (lawVR y).2).length ≤ 5000
        rw [List.length_map]
        omega
      · obtain ⟨y, hy, rfl⟩ := List.mem_map.mp hc
        exact (each y hy).2
    · cases e
end K96

namespace K96
open PySem PySem.Spec PyProof.Rows L2 G96 TL
local macro_rules | `(tactic| walk_at "rd") => `(tactic| simp only [tSeq, tIfS, tOr, tAnd, tNot, tB, tCB, tCons, tNil, tVar, tC, tTest, tChain, rI0, tRet, tOp, tCall, tAsg, gName, tNext, tDrop, tIf, tAndV, tOrV, tNotV, tIsN, tNotN, tM0, tM1, tSl, tPart, tNoPart, rSlS, rEq, rNe, scal_ss, scal_ii, scal_bb, LenV_s, rIsStr, isStr_s, isStr_n, isStr_b, isStr_i, rInt1, tTup, tLst, tFmt, tUn, L2.start, List.map_cons, List.map_nil, List.length_cons, List.length_nil, List.replicate_succ, List.replicate_zero, List.cons_append, List.nil_append, List.append_nil, Nat.reduceAdd, Nat.reduceSub, Nat.sub_self, List.getElem?_cons_zero, List.getElem?_cons_succ, List.set_cons_zero, List.set_cons_succ, Option.some.injEq, exists_eq_left', exists_eq_left, and_assoc, exists_and_left, exists_eq', List.cons.injEq, true_and, and_true, V.int.injEq, V.str.injEq, V.bl.injEq, V.ref.injEq, reduceCtorEq, false_and, and_false, exists_false, or_false, false_or, if_true, if_false, Bool.not_true, Bool.not_false, Bool.false_eq_true, ite_true, ite_false, decide_true, decide_false, eq_self, tJs, rU, gTup, gNil, gCons, StX.tStar, cx_K, must_t, must_f, rNewStrs, rI, tPar, tDGet, sDPut, tBM, tBM0, tDisp, tPairs, tPar3, tRevL, rI])
section
variable {P : Program} {w : World} {K : PySem.W.Frag} {mg : Str → Option Value} {base : Heap}
theorem tyV_list {a : Addr} {H : Hp} {xs : List V} (h : SqL K H a xs) : tyV K "list" (.ref a) H := Or.inl ⟨rfl, xs, h⟩
theorem cm_l {i j : Int} (h1 : -1000000000000 < i) (h2 : i < 1000000000000) : CMul i j := .inl ⟨by omega, by omega⟩
theorem cm_r {i j : Int} (h1 : -1000000000000 < j) (h2 : j < 1000000000000) : CMul i j := .inr ⟨by omega, by omega⟩
theorem mod_in (i : Int) {m : Nat} (h : 0 < m) : ∃ r : Nat, r < m ∧ i.fmod (m : Int) = (r : Int) := by
  have g1 := Int.fmod_nonneg_of_pos i (show (0 : Int) < (m : Int) by omega)
  have g2 := Int.fmod_lt_of_pos i (show (0 : Int) < (m : Int) by omega)
  exact ⟨(i.fmod (m : Int)).toNat, by omega, by omega⟩
def sp_law_deck : Sp := fun vs H Q _ => ∃ a, ∃ ns : List Int, vs = [.ref a] ∧ SqL K H a (ns.map V.int) ∧ ∀ p l H', Same H H' → DeckB H' p l 0 → Q (.ref p) H'
theorem ok_law_deck (Z : Tx K mg base) : OkC P w K mg base L2.CX0 1 "_law_deck" ["script"] (sp_law_deck (K := K)) := by
  refine mk0_law_deck Z sc_law_deck (fun vs H Q E h => ?_) (fun cdv A outer s H vs Q E hr h => ?_)
  · obtain ⟨x, _, rfl, _⟩ := h
    rfl
  · obtain ⟨a, ns, rfl, ha, hQ⟩ := h
    have hu := hr.units
    refine ⟨_, (pss_cons (ps_par (i := 2) (j := 3) (by rfl) sc_law_deck.nd rfl rfl (by decide) rfl rfl (pa_cons (pe_lc (own := [("cell", 1)]) (g := gName 1) (tt := tYes) rfl sc_law_deck.nd (pi_list (pe_slice sl_list (pv 0) po_none (po_some pe_int))) (blkOk_by (own := [("cell", 1)]) (N := ["script", "cell", "cells", "total"]) (sc := defScope s_law_deck) (by decide +kernel)) (fun _ _ _ _ _ => (pg_name (i := 1) sc_law_deck.nd rfl (Or.inl rfl))) (fun _ _ _ _ _ => pts_nil) (fun _ _ _ _ _ => (pe_op op_modN (pe_callTy call_intF (by rfl) Z.n_int (by decide +kernel) (pa_cons (pv 1) pa_nil)) (pe_op op_mulW (pe_op op_pow pe_int pe_int) (pe_op op_pow pe_int pe_int))))) (pa_cons pe_int pa_nil)) (by rfl))
    (C8.pss_cut (ps_for PassesOwn.never rfl (pi_list (pv 2)) (pg_name (i := 1) sc_law_deck.nd rfl (Or.inl rfl))
      (pss_one (ps_set (i := 3) sc_law_deck.nd rfl (Or.inl rfl) (pe_op op_modN (pe_callTy call_intF (by rfl) Z.n_int (by decide +kernel) (pa_cons (pe_op op_add (pe_op op_add (pe_op op_mul (pv 3) pe_int) (pe_op op_modN (pe_callTy call_intF (by rfl) Z.n_int (by decide +kernel) (pa_cons (pv 1) pa_nil)) pe_int)) pe_int) pa_nil)) pe_int))))
    (pss_one (ps_ret (pe_disp (pps_cons pe_str (pe_revL (pv 2)) (pps_cons pe_str (pv 3) (pps_cons pe_str pe_int pps_nil))) (by rfl) (by rfl) (fun z => by cases z) (by decide)))))), ?_⟩
    walk_at "rd"
    have ec : cutV (ns.map V.int) none (some 63) = (ns.take (min 63 ns.length)).map V.int := by
      rw [cut_map]
      rfl
    refine ⟨_, rfl, _, rfl, a, _, rfl, ha, fun q hq => ⟨q, rfl, ⟨_, .of upd_same⟩, fun D hD => ?_⟩⟩
    rw [ec] at hD ⊢
    generalize hus : ns.take (min 63 ns.length) = us at hD ⊢
    have hul : us.length ≤ 63 := by rw [← hus, List.length_take]; omega
    have line : us.length ≤ sizeLine := Nat.le_trans hul (by decide)
    have p45 : (10 : Int) ^ Int.toNat 45 ≠ 0 := by decide +kernel
    have cp : CPow 10 45 := by unfold CPow; decide +kernel
    have cw : CMulW ((10 : Int) ^ Int.toNat 45) ((10 : Int) ^ Int.toNat 45) := wide_mul (a := 200) (b := 200) (by decide +kernel) (by decide +kernel) (by decide) (by decide) (by decide)
    have nz : (10 : Int) ^ Int.toNat 45 * (10 : Int) ^ Int.toNat 45 ≠ 0 := by decide +kernel
    refine lc_mapA (fun i => V.int (i.fmod ((10 : Int) ^ Int.toNat 45 * (10 : Int) ^ Int.toNat 45))) (walk_list (xs := us.map V.int)) hD line (fun H' s' => .of (s' _ _ upd_same)) (fun x hx H1 Kt s1 ht => ?_) (fun H1 s1 e1 => ?_)
    · walk_at "rd"
      exact ⟨rfl, _, rfl, cp, cp, cw, nz, ht _ (Same.refl _)⟩
    · refine ⟨fun σ' H' => ∃ t c, σ' = [some (V.ref a), c, some (.ref D), some (.int t)] ∧ H' = H1, ?_, ?_⟩
      · walk_at "rd"
        refine ⟨_, rfl, D, rfl, ⟨_, .of e1⟩, ?_⟩
        refine for_it (walk_list (xs := us.map fun i => V.int (i.fmod ((10 : Int) ^ Int.toNat 45 * (10 : Int) ^ Int.toNat 45)))) (fun i σ' H' => ∃ t c, σ' = [some (V.ref a), c, some (.ref D), some (.int t)] ∧ H' = H1) ⟨_, _, rfl, rfl⟩ (fun i σ' H' _ ⟨_, _, _, e⟩ => by rw [e]; exact .of e1) (fun i x σ' H' H'' hi hp hy => ?_) (fun σ' H' hp => hp)
        obtain ⟨t, c, rfl, rfl⟩ := hp
        obtain ⟨rfl, hx⟩ := hy
        obtain ⟨v, hv, rfl⟩ := at_map hx
        walk_at "rd"
        exact ⟨cm_r (by decide) (by decide), by decide, by decide⟩
      · rintro σ' H' ⟨t, c, rfl, rfl⟩
        walk_at "rd"
        intro p hp
        have nDp : D ≠ p := ne_of_none e1 hp
        refine ⟨_, .of (by rw [upd_ne nDp]; exact e1), fun l hl => ⟨by rw [upd_ne (ne_of_none upd_same hl)]; exact upd_same, [(.inr "cells", .ref l), (.inr "total", .int t), (.inr "draws", .int 0)], rfl, by show 3 ≤ 15; decide, ?_⟩⟩
        have nlp : l ≠ p := (ne_of_none upd_same hl).symm
        refine hQ p l _ ?_ ⟨(us.map fun i => i.fmod ((10 : Int) ^ Int.toNat 45 * (10 : Int) ^ Int.toNat 45)).reverse, t, 0, upd_same, ?_, ?_, Nat.le_refl _⟩
        · exact ((same_new hq).trans s1).trans fun b o e => by
            have nbp : b ≠ p := ne_of_none e hp
            rw [upd_ne nbp]
            exact same_new hl b o (same_new hp b o e)
        · rw [upd_ne nlp, upd_same, ← List.map_reverse, ← List.map_reverse, List.map_map]
          rfl
        · rw [List.length_reverse, List.length_map]
          omega
def sp_law_draw : Sp := fun vs H Q _ => ∃ p l N m, vs = [.ref p, .int (m : Nat)] ∧ DeckB H p l N ∧ N < 1000000 ∧ 0 < m ∧ m < 1000000000 ∧ ∀ (r : Nat) H', r < m → Stp p l (N + 1) H H' → Q (.int (r : Nat)) H'
theorem ok_law_draw (Z : Tx K mg base) : OkC P w K mg base L2.CX0 1 "_law_draw" ["deck", "many"] sp_law_draw := by
  refine mk0_law_draw Z sc_law_draw (fun vs H Q E h => ?_) (fun cdv A outer s H vs Q E hr h => ?_)
  · obtain ⟨p, l, N, m, rfl, _⟩ := h
    rfl
  · obtain ⟨p, l, N, m, rfl, hd, hN, hm, hm2, hQ⟩ := h
    have hu := hr.units
    have hu1 := hu_of hr
    refine ⟨_, (pss_cons (ps_par (i := 3) (j := 4) (by rfl) sc_law_draw.nd rfl rfl (by decide) rfl rfl (pa_cons (pe_op op_add (pe_dget hu1 (pv 0) pe_str (fun _ _ => rfl)) pe_int) (pa_cons (pe_dget hu1 (pv 0) pe_str (fun _ _ => rfl)) pa_nil)) (by rfl))
    (pss_cons (ps_dput hu1 (pv 0) pe_str (pv 3) rfl)
    (C8.pss_cut (ps_if (pt_cmpR (op_neNil hu) (pe_dget hu1 (pv 0) pe_str (fun _ _ => rfl)) (pe_lst pa_nil) (nomark _)) (pss_cons (ps_set (i := 4) sc_law_draw.nd rfl (Or.inl rfl) (pe_bm0 PySem.F.plainAttrs_list PySem.F.slot_list_pop PySem.F.type_list_pop mt_pop (pe_dget hu1 (pv 0) pe_str (fun _ _ => rfl))))
    (pss_cons (ps_if (pt_cmpR op_ge (pv 4) (pe_op op_pow pe_int pe_int) (nomark _)) (pss_cons (ps_expr (pe_bm PySem.F.plainAttrs_list PySem.F.slot_list_append PySem.F.type_list_append mt_append (pe_dget hu1 (pv 0) pe_str (fun _ _ => rfl)) (pa_cons (pe_op op_fdivN (pv 4) (pe_callB (call_max2 rfl) (by rfl) Z.n_max (by decide +kernel) (pa_cons pe_int (pa_cons (pv 1) pa_nil)))) pa_nil)))
    (pss_one (ps_ret (pe_op op_modN (pe_callTy call_intF (by rfl) Z.n_int (by decide +kernel) (pa_cons (pv 4) pa_nil)) (pv 1))))) pss_nil)
    (pss_one (ps_set (i := 4) sc_law_draw.nd rfl (Or.inl rfl) (pe_op op_add (pv 4) (pe_dget hu1 (pv 0) pe_str (fun _ _ => rfl))))))) pss_nil)
    (pss_cons (ps_set (i := 2) sc_law_draw.nd rfl (Or.inl rfl) (pe_op op_modN (pe_callTy call_intF (by rfl) Z.n_int (by decide +kernel) (pa_cons (pe_op op_mul (pe_op op_add (pe_op op_add (pe_op op_modN (pe_callTy call_intF (by rfl) Z.n_int (by decide +kernel) (pa_cons (pv 4) pa_nil)) pe_int) (pe_op op_mul (pe_op op_mul pe_int (pv 3)) (pv 3))) pe_int) pe_int) pa_nil)) pe_int))
    (pss_cons (ps_set (i := 2) sc_law_draw.nd rfl (Or.inl rfl) (pe_op op_modN (pe_callTy call_intF (by rfl) Z.n_int (by decide +kernel) (pa_cons (pe_op op_add (pe_op op_add (pe_op op_mul (pv 2) (pv 2)) (pe_op op_mul pe_int (pv 3))) pe_int) pa_nil)) pe_int))
    (pss_one (ps_ret (pe_op op_modN (pe_callTy call_intF (by rfl) Z.n_int (by decide +kernel) (pa_cons (pe_op op_fdivN (pe_op op_modN (pe_callTy call_intF (by rfl) Z.n_int (by decide +kernel) (pa_cons (pe_op op_mul (pv 2) pe_int) pa_nil)) pe_int) pe_int) pa_nil)) (pv 1))))))))), ?_⟩
    walk_at "rd"
    obtain ⟨cells, t, n, h1, h2, h3, h4⟩ := hd
    have npl : l ≠ p := fun z => by rw [z, h1] at h2; cases h2
    refine ⟨_, get_draws h1, _, rfl, _, get_total h1, _, put_draws h1, ?_⟩
    have e1 : upd H p (.dK (deckKV l t ((n : Nat) + 1))) p = some (.dK (deckKV l t ((n + 1 : Nat) : Int))) := upd_same
    have e2 : upd H p (.dK (deckKV l t ((n : Nat) + 1))) l = some (.lst (cells.map V.int)) := by rw [upd_ne npl]; exact h2
    have k1 : Same2 p l H (upd H p (.dK (deckKV l t ((n : Nat) + 1)))) := fun a o n1 n2 e => by rw [upd_ne n1]; exact e
    generalize upd H p (.dK (deckKV l t ((n : Nat) + 1))) = H1 at e1 e2 k1
    have em : (m : Int) ≠ 0 := by omega
    refine ⟨fun σ' H' => ∃ c, σ' = [some (V.ref p), some (V.int (m : Nat)), none, some (V.int ((n : Nat) + 1)), some (V.int c)] ∧ Stp p l (N + 1) H H', ?_, ?_⟩
    · walk_at "rd"
      refine ⟨_, get_cells e1, Nat.zero_le _, fun q hq => ⟨l, q, cells, rfl, rfl, .of (by rw [upd_ne (ne_of_none e2 hq)]; exact e2), .of upd_same, _, rfl, ?_⟩⟩
      have e1 : upd H1 q (.lst []) p = some (.dK (deckKV l t ((n + 1 : Nat) : Int))) := same_new hq _ _ e1
      have e2 : upd H1 q (.lst []) l = some (.lst (cells.map V.int)) := same_new hq _ _ e2
      have k1 : Same2 p l H (upd H1 q (.lst [])) := k1.trans (.of (same_new hq))
      generalize upd H1 q (.lst []) = H2 at e1 e2 k1
      cases hc : cells with
      | nil =>
        rw [if_neg (by decide)]
        exact ⟨k1, cells, t, n + 1, e1, e2, h3, by omega⟩
      | cons c0 cs =>
        rw [← hc, if_pos (by rw [hc]; rfl)]
        have h0 : cells ≠ [] := by rw [hc]; exact List.cons_ne_nil _ _
        obtain ⟨ini, c, hcc⟩ : ∃ ini c, cells = ini ++ [c] := ⟨cells.dropLast, cells.getLast h0, (List.dropLast_concat_getLast h0).symm⟩
        have hl : ini.length < cells.length := by rw [hcc, List.length_append, List.length_singleton]; omega
        have epop : (cells.map V.int)[(cells.map V.int).length - 1]? = some (.int c) := by
          rw [List.length_map, List.getElem?_map, hcc, List.length_append, List.length_singleton, List.getElem?_append_right (by omega)]
          simp
        have edrop : (cells.map V.int).dropLast = ini.map V.int := by
          rw [hcc, List.map_append]
          exact List.dropLast_concat
        refine ⟨_, get_cells e1, tyV_list (.of e2), l, _, _, rfl, rfl, e2, epop, ?_⟩
        rw [edrop]
        have e1 : upd H2 l (.lst (ini.map V.int)) p = some (.dK (deckKV l t ((n + 1 : Nat) : Int))) := by rw [upd_ne npl.symm]; exact e1
        have e2 : upd H2 l (.lst (ini.map V.int)) l = some (.lst (ini.map V.int)) := upd_same
        have k1 : Same2 p l H (upd H2 l (.lst (ini.map V.int))) := fun a o n1 n2 e => by rw [upd_ne n2]; exact k1 a o n1 n2 e
        generalize upd H2 l (.lst (ini.map V.int)) = H3 at e1 e2 k1
        refine ⟨by unfold CPow; decide +kernel, _, rfl, ?_⟩
        by_cases hbig : (10 : Int) ^ Int.toNat 18 ≤ c
        · rw [if_pos (decide_eq_true hbig)]
          have e2' : ∀ v, upd H3 l (.lst (ini.map V.int ++ [V.int v])) l = some (.lst ((ini ++ [v]).map V.int)) := fun v => by rw [upd_same, List.map_append]; rfl
          refine ⟨_, get_cells e1, tyV_list (.of e2), _, rfl, ⟨by split <;> omega, by split <;> omega⟩, l, _, _, rfl, rfl, e2, by rw [List.length_map]; exact Nat.lt_of_lt_of_le (show ini.length < 101 by omega) (by decide), em, ?_⟩
          obtain ⟨r, hr, er⟩ := mod_in c hm
          rw [er]
          exact hQ r _ hr ⟨fun a o n1 n2 e => by rw [upd_ne n2]; exact k1 a o n1 n2 e, ini ++ [_], t, n + 1, by rw [upd_ne npl.symm]; exact e1, e2' _, by rw [List.length_append, List.length_singleton]; omega, by omega⟩
        · rw [if_neg (by rw [decide_eq_true_eq]; exact hbig)]
          exact ⟨_, get_total e1, _, rfl, _, rfl, k1, ini, t, n + 1, e1, e2, by omega, by omega⟩
    · rintro σ' H' ⟨c, rfl, st⟩
      walk_at "rd"
      have hn : (n : Int) < 1000000 := by omega
      obtain ⟨r1, b1, q1⟩ := mod_in ((c.fmod 2147483629 + 60223 * ((n : Int) + 1) * ((n : Int) + 1) + 53) * 40692) (m := 2147483647) (by decide)
      obtain ⟨r2, b2, q2⟩ := mod_in (((r1 : Int) * r1 + 69779 * ((n : Int) + 1) + 37)) (m := 2147483587) (by decide)
      have q1' : ((c.fmod 2147483629 + 60223 * ((n : Int) + 1) * ((n : Int) + 1) + 53) * 40692).fmod 2147483647 = (r1 : Int) := q1
      have q2' : ((r1 : Int) * r1 + 69779 * ((n : Int) + 1) + 37).fmod 2147483587 = (r2 : Int) := q2
      rw [q1', q2']
      refine ⟨by decide, cm_l (by decide) (by decide), cm_r (by omega) (by omega), cm_r (by decide) (by decide), by decide, cm_l (by omega) (by omega), cm_l (by decide) (by decide), by decide, cm_r (by decide) (by decide), by decide, ⟨by decide, by decide⟩, em, ?_⟩
      obtain ⟨r, hr, er⟩ := mod_in ((((r2 : Int) * 39373).fmod 2147483563).fdiv 64) hm
      rw [er]
      exact hQ r _ hr st
end
end K96

namespace K96
open PySem PySem.Spec PyProof.Rows L2 G96 TL
local macro_rules | `(tactic| walk_at "rd") => `(tactic| simp only [tSeq, tIfS, tOr, tAnd, tNot, tB, tCB, tCons, tNil, tVar, tC, tTest, tChain, rI0, tRet, tOp, tCall, tAsg, gName, tNext, tDrop, tIf, tAndV, tOrV, tNotV, tIsN, tNotN, tM0, tM1, tSl, tPart, tNoPart, rSlS, rEq, rNe, scal_ss, scal_ii, scal_bb, LenV_s, rIsStr, isStr_s, isStr_n, isStr_b, isStr_i, rInt1, tTup, tLst, tFmt, tUn, L2.start, List.map_cons, List.map_nil, List.length_cons, List.length_nil, List.replicate_succ, List.replicate_zero, List.cons_append, List.nil_append, List.append_nil, Nat.reduceAdd, Nat.reduceSub, Nat.sub_self, List.getElem?_cons_zero, List.getElem?_cons_succ, List.set_cons_zero, List.set_cons_succ, Option.some.injEq, exists_eq_left', exists_eq_left, and_assoc, exists_and_left, exists_eq', List.cons.injEq, true_and, and_true, V.int.injEq, V.str.injEq, V.bl.injEq, V.ref.injEq, reduceCtorEq, false_and, and_false, exists_false, or_false, false_or, if_true, if_false, Bool.not_true, Bool.not_false, Bool.false_eq_true, ite_true, ite_false, decide_true, decide_false, eq_self, tJs, rU, gTup, gNil, gCons, StX.tStar, cx_K, must_t, must_f, rNewStrs, rI, tPar, tDGet, sDPut, tBM, tBM0, tDisp, tPairs, tPar3, tRevL, rI])
section
variable {P : Program} {w : World} {K : PySem.W.Frag} {mg : Str → Option Value} {base : Heap}
def sp_law_pick : Sp := fun vs H Q _ => ∃ p l N v, vs = [.ref p, v] ∧ DeckB H p l N ∧ N < 1000000 ∧
  ((∃ a xs, v = .ref a ∧ a ≠ l ∧ H a = some (.lst xs) ∧ 0 < xs.length ∧ xs.length < 1000000 ∧ ∀ (i : Nat) x H', xs[i]? = some x → Stp p l (N + 1) H H' → Q x H') ∨
   ∃ z : Str, v = .str z ∧ 0 < z.length ∧ z.length < 1000000 ∧ ∀ c H', c ∈ z.cps.toList → Stp p l (N + 1) H H' → Q (.str ⟨#[c]⟩) H')
theorem ok_law_pick (Z : Tx K mg base) : OkC P w K mg base L2.CX0 2 "_law_pick" ["deck", "some"] sp_law_pick := by
  refine mk0_law_pick Z sc_law_pick (fun vs H Q E h => ?_) (fun cdv A outer s H vs Q E hr h => ?_)
  · obtain ⟨p, l, N, m, rfl, _⟩ := h
    rfl
  · obtain ⟨p, l, N, v, rfl, hd, hN, h⟩ := h
    have hu := hr.units
    refine ⟨_, (pss_one (ps_ret (pe_ix ix_seq (pv 1) (pe_c (ok_law_draw Z) hr (by decide) rfl pass0 (pa_cons (pv 0) (pa_cons (pe_callB call_len (by rfl) Z.n_len (by decide +kernel) (pa_cons (pv 1) pa_nil)) pa_nil))) (fun _ _ => rfl)))), ?_⟩
    rcases h with ⟨a, xs, rfl, hal, ha, h0, h1, hQ⟩ | ⟨z, rfl, h0, h1, hQ⟩
    · walk_at "rd"
      refine ⟨_, LenV_l (.of ha), p, l, N, xs.length, rfl, hd, hN, h0, by omega, fun r H' hr s' => ?_⟩
      have hap : a ≠ p := fun z => by
        obtain ⟨c, t, n, e1, _⟩ := hd
        rw [z, e1] at ha
        cases ha
      exact .inl ⟨a, xs, r, xs[r], rfl, rfl, .of (s'.keep _ _ hap hal ha), atI_nat (j := r) (by simp [hr]), hQ r _ _ (by simp [hr]) s'⟩
    · walk_at "rd"
      refine ⟨by exact Nat.le_trans (Nat.le_of_lt h1) (by decide), p, l, N, z.length, rfl, hd, hN, h0, by omega, fun r H' hr s' => ?_⟩
      have hr' : r < z.cps.toList.length := by rw [← show z.length = z.cps.toList.length from len_tl z]; exact hr
      exact .inr (.inr ⟨z, r, z.cps.toList[r], rfl, rfl, Nat.le_trans (Nat.le_of_lt h1) (by decide), atI_nat (j := r) (by simp [hr']), hQ _ _ (List.getElem_mem hr') s'⟩)
def someNames : List Str := ["put", "take", "nothing", "row", "next", "item", "sale", "a", "z", "abcdefgh", "less", "of", "keys", "count"]
def sp_law_name : Sp := fun vs H Q _ => ∃ p l N, vs = [.ref p] ∧ DeckB H p l N ∧ N < 1000000 ∧ ∀ x H', x ∈ someNames → Stp p l (N + 1) H H' → Q (.str x) H'
theorem ok_law_name (Z : Tx K mg base) : OkC P w K mg base L2.CX0 3 "_law_name" ["deck"] sp_law_name := by
  refine mk0_law_name Z sc_law_name (fun vs H Q E h => ?_) (fun cdv A outer s H vs Q E hr h => ?_)
  · obtain ⟨p, l, N, rfl, _⟩ := h
    rfl
  · obtain ⟨p, l, N, rfl, hd, hN, hQ⟩ := h
    have hu := hr.units
    refine ⟨_, (pss_cons (ps_set (i := 1) sc_law_name.nd rfl (Or.inl rfl) (pe_m1 PySem.F.slot_str_split PySem.F.type_str_split mt_splitF pe_str pe_str))
    (pss_one (ps_ret (pe_c (ok_law_pick Z) hr (by decide) rfl pass0 (pa_cons (pv 0) (pa_cons (pv 1) pa_nil)))))), ?_⟩
    walk_at "rd"
    refine ⟨_, _, rfl, rfl, by decide +kernel, by decide +kernel, fun q hq => ?_⟩
    have es : Txt.split (Str.ofString "put take nothing row next item sale a z abcdefgh less of keys count") (Str.ofString " ") = someNames := by decide +kernel
    rw [es]
    have hql := (hd.ne_new hq).2
    refine ⟨p, l, N, _, rfl, hd.same (same_new hq), hN, .inl ⟨q, someNames.map V.str, rfl, hql, upd_same, by decide, by decide, fun i x H' hx s' => ?_⟩⟩
    obtain ⟨y, hy, rfl⟩ := at_map hx
    exact hQ y H' (List.mem_of_getElem? hy) ((Stp.ofSame hd (same_new hq)).trans s')
def someInts : List Int := [1000000000000, -1000000000000, 999999999999, -999999999999, 0, -1]
def GoodC : Sc → Prop
  | .non => True
  | .int i => -1000000000000 ≤ i ∧ i ≤ 1000000000000
  | .str x => x ∈ someNames
def sp_law_value : Sp := fun vs H Q _ => ∃ p l N, vs = [.ref p] ∧ DeckB H p l N ∧ N < 999990 ∧ ∀ c H', GoodC c → Stp p l (N + 2) H H' → Q (Sc.v c) H'
theorem ok_law_value (Z : Tx K mg base) : OkC P w K mg base L2.CX0 4 "_law_value" ["deck"] sp_law_value := by
  refine mk0_law_value Z sc_law_value (fun vs H Q E h => ?_) (fun cdv A outer s H vs Q E hr h => ?_)
  · obtain ⟨p, l, N, rfl, _⟩ := h
    rfl
  · obtain ⟨p, l, N, rfl, hd, hN, hQ⟩ := h
    have hu := hr.units
    refine ⟨_, (pss_cons (ps_set (i := 1) sc_law_value.nd rfl (Or.inl rfl) (pe_c (ok_law_draw Z) hr (by decide) rfl pass0 (pa_cons (pv 0) (pa_cons pe_int pa_nil))))
    (pss_cons (ps_if (pt_cmpR op_lt (pv 1) pe_int (nomark _)) (pss_one (ps_ret (pe_ix ix_list (pe_lst (pa_cons pe_non (pa_cons (pe_c (ok_law_name Z) hr (by decide) rfl pass0 (pa_cons (pv 0) pa_nil)) pa_nil))) (pv 1) (fun _ _ => rfl)))) pss_nil)
    (pss_cons (ps_if (pt_cmpR op_eq (pv 1) pe_int (nomark _)) (pss_one (ps_ret (pe_c (ok_law_pick Z) hr (by decide) rfl pass0 (pa_cons (pv 0) (pa_cons (pe_lst (pa_cons (pe_op op_pow pe_int pe_int) (pa_cons (pe_un un_neg (pe_op op_pow pe_int pe_int)) (pa_cons (pe_op op_sub (pe_op op_pow pe_int pe_int) pe_int) (pa_cons (pe_op op_sub pe_int (pe_op op_pow pe_int pe_int)) (pa_cons pe_int (pa_cons (pe_un un_neg pe_int) pa_nil))))))) pa_nil))))) pss_nil)
    (pss_one (ps_ret (pe_op op_sub (pe_c (ok_law_draw Z) hr (by decide) rfl pass0 (pa_cons (pv 0) (pa_cons pe_int pa_nil))) pe_int)))))), ?_⟩
    walk_at "rd"
    refine ⟨p, l, N, 7, rfl, hd, by omega, by decide, by decide, fun r H1 hr1 s1 => ⟨_, rfl, ?_⟩⟩
    by_cases h1 : (r : Int) < 2
    · rw [if_pos (decide_eq_true h1)]
      refine ⟨p, l, N + 1, rfl, s1.deck, by omega, fun x H2 hx s2 => ⟨by decide, fun q hq => ⟨q, [.non, .str x], r, if r = 0 then .non else .str x, rfl, rfl, .of upd_same, atI_nat (j := r) ?_, ?_⟩⟩⟩
      · rcases (show r = 0 ∨ r = 1 by omega) with rfl | rfl <;> rfl
      · have s3 : Stp p l (N + 2) H (upd H2 q (.lst [.non, .str x])) := (s1.trans s2).new hq
        rcases (show r = 0 ∨ r = 1 by omega) with rfl | rfl
        · exact hQ .non _ trivial s3
        · exact hQ (.str x) _ hx s3
    rw [if_neg (by rw [decide_eq_true_eq]; exact h1)]
    refine ⟨scal_ii, ?_⟩
    by_cases h2 : (r : Int) = 2
    · rw [if_pos (decide_eq_true (by rw [h2]))]
      have cp : CPow 10 12 := by unfold CPow; decide +kernel
      have p12 : (10 : Int) ^ Int.toNat 12 = 1000000000000 := by decide +kernel
      rw [p12]
      refine ⟨cp, cp, cp, cp, by decide, fun q hq => ?_⟩
      have hql := (s1.deck.ne_new hq).2
      refine ⟨p, l, N + 1, _, rfl, s1.deck.same (same_new hq), by omega, .inl ⟨q, someInts.map V.int, rfl, hql, upd_same, by decide, by decide, fun i x H' hx s' => ?_⟩⟩
      obtain ⟨y, hy, rfl⟩ := at_map hx
      refine hQ (.int y) H' ?_ ((s1.new hq).trans s')
      have hm := List.mem_of_getElem? hy
      revert hm
      clear hx hy
      intro hm
      have g : ∀ z ∈ someInts, -1000000000000 ≤ z ∧ z ≤ 1000000000000 := by decide +kernel
      exact g y hm
    · rw [if_neg (by rw [decide_eq_true_eq]; exact fun z => h2 (V.int.inj z))]
      refine ⟨p, l, N + 1, 30, rfl, s1.deck, by omega, by decide, by decide, fun r2 H2 hr2 s2 => ⟨_, rfl, ?_⟩⟩
      exact hQ (.int ((r2 : Int) - 9)) _ ⟨by omega, by omega⟩ (s1.trans s2)
theorem name_len {x : Str} (h : x ∈ someNames) : x.length ≤ 8 := by
  have g : ∀ z ∈ someNames, z.length ≤ 8 := by decide +kernel
  exact g x h
theorem GoodC.ok {c : Sc} (h : GoodC c) : Sc.Ok c := by
  cases c with
  | non => trivial
  | int i =>
    obtain ⟨h1, h2⟩ := h
    show i.natAbs ≤ 1000000000000
    omega
  | str x => exact name_len h
def GoodD : Deed → Prop
  | .put t vs => t ∈ someNames ∧ 0 < vs.length ∧ vs.length ≤ 5 ∧ ∀ c ∈ vs, GoodC c
  | .take t n => t ∈ someNames ∧ 0 ≤ n ∧ n ≤ 1000000000000000000000000000000000000000
theorem GoodD.ok {d : Deed} (h : GoodD d) : Deed.Ok d := by
  cases d with
  | put t vs => exact ⟨name_len h.1, Nat.le_trans h.2.2.1 (by decide), fun c hc => (h.2.2.2 c hc).ok⟩
  | take t n =>
    refine ⟨name_len h.1, ?_⟩
    have h1 : n.natAbs < 2 ^ 200 := by
      have h2 := h.2.1
      have h3 := h.2.2
      omega
    have h2 := PySem.Flt.log2_lt_of (by decide) h1
    omega
def someTakes : List Int := [0, 1, 12, 1000000000001, 1000000000000000000000000000000000000000, 7]
def sp_law_deed : Sp := fun vs H Q _ => ∃ p l N, vs = [.ref p] ∧ DeckB H p l N ∧ N < 999900 ∧ ∀ d v H', GoodD d → Stp p l (N + 14) H H' → TD H' v (Deed.d d) → Q v H'
theorem ok_law_deed (Z : Tx K mg base) : OkC P w K mg base L2.CX0 5 "_law_deed" ["deck"] sp_law_deed := by
  refine mk0_law_deed Z sc_law_deed (fun vs H Q E h => ?_) (fun cdv A outer s H vs Q E hr h => ?_)
  · obtain ⟨p, l, N, rfl, _⟩ := h
    rfl
  · obtain ⟨p, l, N, rfl, hd, hN, hQ⟩ := h
    have hu := hr.units
    refine ⟨_, (pss_cons (ps_if (pt_cmpR op_eq (pe_c (ok_law_draw Z) hr (by decide) rfl pass0 (pa_cons (pv 0) (pa_cons pe_int pa_nil))) pe_int (nomark _)) (pss_cons (ps_set (i := 1) sc_law_deed.nd rfl (Or.inl rfl) (pe_c (ok_law_pick Z) hr (by decide) rfl pass0 (pa_cons (pv 0) (pa_cons (pe_lst (pa_cons pe_int (pa_cons pe_int (pa_cons pe_int (pa_cons (pe_op op_add (pe_op op_pow pe_int pe_int) pe_int) (pa_cons (pe_op op_pow pe_int pe_int) (pa_cons pe_int pa_nil))))))) pa_nil))))
    (pss_one (ps_ret (pe_tup (pa_cons pe_str (pa_cons (pe_c (ok_law_name Z) hr (by decide) rfl pass0 (pa_cons (pv 0) pa_nil)) (pa_cons (pv 1) pa_nil))))))) pss_nil)
    (pss_one (ps_ret (pe_tup (pa_cons pe_str (pa_cons (pe_c (ok_law_name Z) hr (by decide) rfl pass0 (pa_cons (pv 0) pa_nil)) (pa_cons (pe_callTy call_tuple_of (by rfl) Z.n_tuple (by decide +kernel) (pa_cons (pe_lc (own := [("go", 2)]) (g := gName 2) (tt := tYes) rfl sc_law_deed.nd (pi_range1 rfl Z.n_range (pa_cons (pe_op op_add pe_int (pe_c (ok_law_draw Z) hr (by decide) rfl pass0 (pa_cons (pv 0) (pa_cons pe_int pa_nil)))) pa_nil)) (blkOk_by (own := [("go", 2)]) (N := ["deck", "number", "go"]) (sc := defScope s_law_deed) (by decide +kernel)) (fun _ _ _ _ _ => (pg_name (i := 2) sc_law_deed.nd rfl (Or.inl rfl))) (fun _ _ _ _ _ => pts_nil) (fun _ _ _ _ _ => (pe_c (ok_law_value Z) hr (by decide) rfl pass0 (pa_cons (pv 0) pa_nil)))) pa_nil)) pa_nil))))))), ?_⟩
    walk_at "rd"
    refine ⟨p, l, N, 3, rfl, hd, by omega, by decide, by decide, fun r H1 hr1 s1 => ⟨scal_ii, ?_⟩⟩
    by_cases h1 : (r : Int) = 0
    · rw [if_pos (decide_eq_true (by rw [h1]))]
      have p12 : (10 : Int) ^ Int.toNat 12 + 1 = 1000000000001 := by decide +kernel
      have p39 : (10 : Int) ^ Int.toNat 39 = 1000000000000000000000000000000000000000 := by decide +kernel
      rw [p12, p39]
      refine ⟨by unfold CPow; decide +kernel, by unfold CPow; decide +kernel, by decide, fun q hq => ?_⟩
      have hql := (s1.deck.ne_new hq).2
      refine ⟨p, l, N + 1, _, rfl, s1.deck.same (same_new hq), by omega, .inl ⟨q, someTakes.map V.int, rfl, hql, upd_same, by decide, by decide, fun i x H2 hx s2 => ?_⟩⟩
      obtain ⟨y, hy, rfl⟩ := at_map hx
      have g : ∀ z ∈ someTakes, 0 ≤ z ∧ z ≤ 1000000000000000000000000000000000000000 := by decide +kernel
      have gy := g y (List.mem_of_getElem? hy)
      have s12 := (s1.new hq).trans s2
      refine ⟨p, l, N + 1 + 1, rfl, s12.deck, by omega, fun x H3 hx3 s3 => ⟨by decide, fun a ha => ?_⟩⟩
      exact hQ (.take x y) _ _ ⟨hx3, gy⟩ (((s12.trans s3).new ha).mono (by omega)) (Deed.mk_take upd_same)
    · rw [if_neg (by rw [decide_eq_true_eq]; exact fun z => h1 (V.int.inj z))]
      refine ⟨p, l, N + 1, rfl, s1.deck, by omega, fun t H2 ht s2 => ?_⟩
      have s12 := s1.trans s2
      refine ⟨_, rfl, p, l, N + 2, 5, rfl, s12.deck, by omega, by decide, by decide, fun r2 H3 hr2 s3 => ?_⟩
      have s13 := s12.trans s3
      refine ⟨1, _, rfl, rfl, (1 : Int) + (r2 : Nat), rfl, by omega, by omega, fun D hD => ?_⟩
      have en : ((1 : Int) + (r2 : Nat)).toNat = 1 + r2 := by omega
      rw [en]
      refine lc_draw (k := 2) walk_range hD (Nat.le_trans (show 1 + r2 ≤ 5 by omega) (by decide)) s13.deck (fun i acc _ => ∃ cs : List Sc, acc = cs.map Sc.v ∧ cs.length = i ∧ ∀ c ∈ cs, GoodC c) ⟨[], rfl, rfl, fun _ z => by cases z⟩ (fun _ _ _ _ e _ => e) (fun _ _ _ => trivial) (fun i x H4 H4' acc Kt hi s4 hp hy ht => ?_) (fun acc H4 s4 e4 hl hp => ?_)
      · obtain ⟨rfl, rfl⟩ := hy
        obtain ⟨cs, rfl, hcl, hcg⟩ := hp
        refine ⟨rfl, _, rfl, p, l, _, rfl, s4.deck, by omega, fun c H5 hc s5 => ht _ _ (s5.mono (by omega)) ⟨cs ++ [c], by rw [List.map_append]; rfl, by rw [List.length_append, hcl]; rfl, fun c' hc' => ?_⟩⟩
        rcases List.mem_append.mp hc' with z | z
        · exact hcg c' z
        · rw [List.mem_singleton.mp z]
          exact hc
      · obtain ⟨cs, rfl, hcl, hcg⟩ := hp
        refine ⟨D, rfl, _, .inl ⟨.of e4, fun a ha => ⟨by decide, fun b hb => ?_⟩⟩⟩
        have nab : a ≠ b := ne_of_none upd_same hb
        exact hQ (.put t cs) _ _ ⟨ht, by omega, by omega, hcg⟩ ((((s13.trans s4).new ha).new hb).mono (by omega)) (Deed.mk_put upd_same (by rw [upd_ne nab]; exact upd_same))
end
end K96

namespace K96
open PySem PySem.Spec PyProof.Rows L2 G96 TL
/-! repr -/
structure ReprOk (d : PyData) : Prop where
  sh : d.showable = true
  nd : d.hasDict = false
  dp : d.depth < 40
  ln : d.shown.length ≤ sizeLine
structure Sf (k : Nat) (d : PyData) : Prop where
  sh : d.showable = true
  nd : d.hasDict = false
  dp : d.depth ≤ k
  lv : d.leavesShort 600 = true
theorem Sf.all {k : Nat} : ∀ {ds : List PyData}, (∀ d ∈ ds, Sf k d) → PyData.showableAll ds = true ∧ PyData.hasDictAll ds = false ∧ PyData.depthAll ds ≤ k ∧ PyData.leavesShortAll 600 ds = true
  | [], _ => ⟨rfl, rfl, Nat.zero_le _, rfl⟩
  | d :: ds, h => by
    obtain ⟨h1, h2, h3, h4⟩ := Sf.all fun x hx => h x (List.mem_cons_of_mem d hx)
    have g := h d List.mem_cons_self
    refine ⟨?_, ?_, ?_, ?_⟩
    · simp only [PyData.showableAll, g.sh, h1, Bool.and_self]
    · simp only [PyData.hasDictAll, g.nd, h2, Bool.or_self]
    · have := g.dp
      simp only [PyData.depthAll]
      omega
    · simp only [PyData.leavesShortAll, g.lv, h4, Bool.and_self]
theorem Sf.tup {k : Nat} {ds : List PyData} (h : ∀ d ∈ ds, Sf k d) : Sf (k + 1) (.tuple ds) := by
  obtain ⟨h1, h2, h3, h4⟩ := Sf.all h
  refine ⟨by simpa only [PyData.showable] using h1, by simpa only [PyData.hasDict] using h2, ?_, by simpa only [PyData.leavesShort] using h4⟩
  simp only [PyData.depth]
  omega
theorem Sf.lst {k : Nat} {ds : List PyData} (h : ∀ d ∈ ds, Sf k d) : Sf (k + 1) (.list ds) := by
  obtain ⟨h1, h2, h3, h4⟩ := Sf.all h
  refine ⟨by simpa only [PyData.showable] using h1, by simpa only [PyData.hasDict] using h2, ?_, by simpa only [PyData.leavesShort] using h4⟩
  simp only [PyData.depth]
  omega
theorem Sf.mono {j k : Nat} {d : PyData} (h : Sf j d) (hk : j ≤ k) : Sf k d := ⟨h.sh, h.nd, Nat.le_trans h.dp hk, h.lv⟩
theorem Sf.none : Sf 0 .none := ⟨rfl, rfl, Nat.zero_le _, rfl⟩
theorem Sf.bool (b : Bool) : Sf 0 (.bool b) := ⟨rfl, rfl, Nat.zero_le _, rfl⟩
theorem Sf.str {x : Str} (h : ∀ c ∈ tl x, c < 128) : Sf 0 (.str x) := ⟨rfl, rfl, Nat.zero_le _, by
  simp only [PyData.leavesShort, List.all_eq_true, decide_eq_true_eq]
  intro c hc
  exact Nat.lt_trans (h c hc) (by decide)⟩
theorem Sf.int {i : Int} (h : i.natAbs.log2 < 1920) : Sf 0 (.int i) := by
  refine ⟨decide_eq_true h, rfl, Nat.zero_le _, ?_⟩
  have q : (numL i.natAbs).length ≤ 590 := numL_len (by decide) (Nat.lt_of_lt_of_le (lt_of_log h) (by decide +kernel))
  have e : (PyData.shown (.int i)).length ≤ 600 := by
    show (Str.ofString (toString i)).length ≤ 600
    rw [len_tl, tl_int]
    split
    · rw [List.length_cons]
      omega
    · omega
  simpa only [PyData.leavesShort, decide_eq_true_eq] using e
theorem Sf.repr {k : Nat} {d : PyData} (h : Sf k d) (hk : k < 40) (hb : d.bulk ≤ 27000) : ReprOk d := by
  refine ⟨h.sh, h.nd, Nat.lt_of_le_of_lt h.dp hk, ?_⟩
  have q := PyData.shown_le_bulk 600 (by decide) d h.lv
  refine Nat.le_trans q (Nat.le_trans (show (600 + 2) * d.bulk + 600 ≤ 16300000 by omega) (by decide))
/-! a deed's words -/
def wordsD : Deed → List Str
  | .put t vs => Str.ofString "put" :: t :: vs.map showC
  | .take t n => [Str.ofString "take", t, Str.ofString (toString n)]
theorem showD_words (d : Deed) : showD d = Txt.join (Str.ofString " ") (wordsD d) := by cases d <;> rfl
/-- a deed of plain names -/
def Plain (d : Deed) : Prop := match d with
  | .put t vs => (∀ c ∈ tl t, c < 128) ∧ ∀ z, Sc.str z ∈ vs → ∀ c ∈ tl z, c < 128
  | .take t _ => ∀ c ∈ tl t, c < 128
theorem plain_name {x : Str} (h : lawName x = true) : ∀ c ∈ tl x, c < 128 := fun c hc => by
  have := (lawName_iff.mp h).2.2 c hc
  omega
theorem Good.plain {d : Deed} (h : Good d) : Plain d := by
  cases d with
  | put t vs => exact ⟨plain_name h.1, fun z hz => plain_name (h.2 z hz)⟩
  | take t n => exact plain_name h
theorem deed_sf {d : Deed} (h : Deed.Ok d) (p : Plain d) : Sf 2 d.d := by
  have lit : ∀ x : Str, x.cps.toList.all (fun c => decide (c < 128)) = true → Sf 1 (.str x) := fun x hx => (Sf.str fun c hc => of_decide_eq_true (List.all_eq_true.mp hx c hc)).mono (by decide)
  cases d with
  | put t vs =>
    refine Sf.tup (k := 1) fun e he => ?_
    simp only [List.mem_cons, List.not_mem_nil, or_false] at he
    rcases he with rfl | rfl | rfl
    · exact lit _ (by decide +kernel)
    · exact (Sf.str p.1).mono (by decide)
    · refine Sf.tup (k := 0) fun e he => ?_
      obtain ⟨c, hc, rfl⟩ := List.mem_map.mp he
      cases c with
      | non => exact Sf.none
      | int i => exact Sf.int (log_small (h.2.2 _ hc))
      | str z => exact Sf.str (p.2 z hc)
  | take t n =>
    refine Sf.tup (k := 1) fun e he => ?_
    simp only [List.mem_cons, List.not_mem_nil, or_false] at he
    rcases he with rfl | rfl | rfl
    · exact lit _ (by decide +kernel)
    · exact (Sf.str p).mono (by decide)
    · exact (Sf.int h.2).mono (by decide)
theorem join_wsum {s : Nat} {y : Str} (ey : tl y = [s]) : ∀ {ws : List Str}, ws ≠ [] → (Txt.join y ws).length + 1 = wsum ws
  | [], h => absurd rfl h
  | [w], _ => by
    rw [len_tl, join_eq, tl_join]
    show (tl w).length + 1 = _
    rw [wsum_cons, len_tl]
    rfl
  | w :: v :: r, _ => by
    have ih := join_wsum ey (ws := v :: r) (List.cons_ne_nil _ _)
    rw [len_tl, join_eq, tl_join, ey] at ih ⊢
    show (tl w ++ ([s] ++ joinL [s] (tl v :: r.map tl))).length + 1 = _
    rw [wsum_cons, List.length_append, List.length_append, List.length_singleton, len_tl w]
    have ih : (joinL [s] (tl v :: r.map tl)).length + 1 = wsum (v :: r) := ih
    omega
theorem showD_wsum (d : Deed) : (showD d).length + 1 = wsum (wordsD d) := by
  rw [showD_words]
  exact join_wsum tl_blank (by cases d <;> exact List.cons_ne_nil _ _)
theorem bulk_vals : ∀ vs : List Sc, PyData.bulkAll (vs.map Sc.d) ≤ wsum (vs.map showC)
  | [] => Nat.le_refl _
  | c :: vs => by
    have ih := bulk_vals vs
    rw [List.map_cons, List.map_cons, wsum_cons]
    have hc : (Sc.d c).bulk ≤ (showC c).length := by
      cases c with
      | non => exact Nat.zero_le _
      | int i => exact Nat.zero_le _
      | str z =>
        show z.cps.size ≤ (Str.ofString "\"" ++ z ++ Str.ofString "\"").length
        rw [app_len, app_len]
        have : z.length = z.cps.size := rfl
        omega
    simp only [PyData.bulkAll]
    omega
theorem bulk_deed (d : Deed) : d.d.bulk ≤ (showD d).length + 3 := by
  have q := showD_wsum d
  have e3 : (Str.ofString "put").cps.size = 3 := by decide +kernel
  have e4 : (Str.ofString "take").cps.size = 4 := by decide +kernel
  have f3 : (Str.ofString "put").length = 3 := by decide +kernel
  have f4 : (Str.ofString "take").length = 4 := by decide +kernel
  cases d with
  | put t vs =>
    have b := bulk_vals vs
    have et : t.cps.size = t.length := rfl
    simp only [wordsD, wsum_cons, f3] at q
    simp only [Deed.d, PyData.bulk, PyData.bulkAll, e3, et]
    omega
  | take t n =>
    have et : t.cps.size = t.length := rfl
    simp only [wordsD, wsum_cons, f4] at q
    simp only [Deed.d, PyData.bulk, PyData.bulkAll, e4, et]
    omega
theorem bulk_batch : ∀ ds : List Deed, PyData.bulkAll (ds.map Deed.d) ≤ wsum (ds.map showD) + 3 * ds.length
  | [] => Nat.le_refl _
  | d :: ds => by
    have ih := bulk_batch ds
    have b := bulk_deed d
    rw [List.map_cons, List.map_cons, wsum_cons, List.length_cons]
    simp only [PyData.bulkAll]
    omega
end K96

namespace K96
open PySem PySem.Spec PyProof.Rows L2 G96 TL
local macro_rules | `(tactic| walk_at "rd") => `(tactic| simp only [tSeq, tIfS, tOr, tAnd, tNot, tB, tCB, tCons, tNil, tVar, tC, tTest, tChain, rI0, tRet, tOp, tCall, tAsg, gName, tNext, tDrop, tIf, tAndV, tOrV, tNotV, tIsN, tNotN, tM0, tM1, tSl, tPart, tNoPart, rSlS, rEq, rNe, scal_ss, scal_ii, scal_bb, LenV_s, rIsStr, isStr_s, isStr_n, isStr_b, isStr_i, rInt1, tTup, tLst, tFmt, tUn, L2.start, List.map_cons, List.map_nil, List.length_cons, List.length_nil, List.replicate_succ, List.replicate_zero, List.cons_append, List.nil_append, List.append_nil, Nat.reduceAdd, Nat.reduceSub, Nat.sub_self, List.getElem?_cons_zero, List.getElem?_cons_succ, List.set_cons_zero, List.set_cons_succ, Option.some.injEq, exists_eq_left', exists_eq_left, and_assoc, exists_and_left, exists_eq', List.cons.injEq, true_and, and_true, V.int.injEq, V.str.injEq, V.bl.injEq, V.ref.injEq, reduceCtorEq, false_and, and_false, exists_false, or_false, false_or, if_true, if_false, Bool.not_true, Bool.not_false, Bool.false_eq_true, ite_true, ite_false, decide_true, decide_false, eq_self, tJs, rU, gTup, gNil, gCons, StX.tStar, cx_K, must_t, must_f, rNewStrs, rI, tPar, tDGet, sDPut, tBM, tBM0, tDisp, tPairs, tPar3, tRevL, rI])
section
variable {P : Program} {w : World} {K : PySem.W.Frag} {mg : Str → Option Value} {base : Heap}
def handTexts : List Str := (Txt.split (Str.ofString "put item|put|take item|take item 0 0|take item -1|take item 00|take item -0|put item 01|") (Str.ofString "|")) ++ (Txt.split (Str.ofString "take item 99999999999999999999999999| put item 1|put item 1 |Put item 1|PUT item 1") (Str.ofString "|")) ++ (Txt.split (Str.ofString "put item \"cup\" \"hat\" nothing -7|put nothing nothing|take take 0|put item \"cup") (Str.ofString "|")) ++ (Txt.split (Str.ofString "put item cup|put item \"cup\"1|put item \"\"|put item - 1|put item -|put item --1") (Str.ofString "|")) ++ (Txt.split (Str.ofString "take item 0x1|take item 1_0|put item 1_0|put item -0|do put item 1") (Str.ofString "|")) ++ (Txt.split (Str.ofString "put item 1;put item 2") (Str.ofString "|")) ++ (Txt.split (Str.ofString "put item 1000000000000 -1000000000000|put item 1000000000001|put  1|put item  1") (Str.ofString "|")) ++ (Txt.split (Str.ofString "put item -1000000000001|put Item 1|put abcdefghi 1|take i2 0") (Str.ofString "|")) ++ ([(Str.ofString "put item 1\n"), (Str.ofString "\nput item 1"), (Str.ofString "put item 1\n\ntake item 0"), (Str.ofString "put item 1\ntake item 0"), (Str.ofString "\n"), (Str.ofString " ")]) ++ ([(Str.ofString "take item 1\ntake item 1"), (Str.ofString "put item 1\n put item 2")])
theorem none_of {H H' : Hp} {p : Addr} (s : Same H H') (h : H' p = none) : H p = none := by
  cases e : H p with
  | none => rfl
  | some o => rw [s _ _ e] at h; cases h
theorem split_step {H0 H : Hp} {a : Addr} {l : List Str} {t s : Str} {Q : VK} (n : Nat) (s0 : Same H0 H) (ha : H a = some (.lst (l.map V.str))) (hl : l.length ≤ n) (hn : n ≤ 3000) (hs : (s.length == 0) = false) (ht : t.length ≤ 120)
    (k : ∀ p H', Same H0 H' → H0 p = none → H' p = some (.lst ((l ++ Txt.split t s).map V.str)) → (l ++ Txt.split t s).length ≤ n + 122 → Q (.ref p) H') : rSplit (.str t) [.str s] H fun y H2 => rCat (.ref a) y H2 Q := by
  have q := split_len t s
  have z : (5000 : Nat) ≤ sizeLine := by decide
  refine ⟨t, s, rfl, rfl, hs, by omega, fun p hp => ⟨a, p, _, _, rfl, rfl, same_new hp _ _ ha, upd_same, by rw [List.length_map, List.length_map]; omega, fun r hr => ?_⟩⟩
  refine k r _ (sameNew (sameNew s0 hp) hr) (none_of (s0.trans (same_new hp)) hr) ?_ ?_
  · rw [upd_same, List.map_append]
  · rw [List.length_append]
    omega
theorem list_step {H0 H : Hp} {a p : Addr} {l ys : List Str} {Q : VK} (s0 : Same H0 H) (hp : H p = none) (ha : H a = some (.lst (l.map V.str))) (hl : l.length ≤ 3000) (hy : ys.length ≤ 10)
    (k : ∀ p H', Same H0 H' → H0 p = none → H' p = some (.lst ((l ++ ys).map V.str)) → Q (.ref p) H') : rCat (.ref a) (.ref p) (upd H p (.lst (ys.map V.str))) Q := by
  have z : (5000 : Nat) ≤ sizeLine := by decide
  refine ⟨a, p, _, _, rfl, rfl, same_new hp _ _ ha, upd_same, by rw [List.length_map, List.length_map]; omega, fun r hr => ?_⟩
  refine k r _ (sameNew (sameNew s0 hp) hr) (none_of (s0.trans (same_new hp)) hr) ?_
  rw [upd_same, List.map_append]
def sp_law_by_hand : Sp := fun vs H Q _ => vs = [] ∧ ∀ p H', Same H H' → H p = none → H' p = some (.lst (handTexts.map V.str)) → Q (.ref p) H'
theorem ok_law_by_hand (Z : Tx K mg base) : OkC P w K mg base L2.CX0 1 "_law_by_hand" [] sp_law_by_hand := by
  refine mk0_law_by_hand Z sc_law_by_hand (fun vs H Q E h => ?_) (fun cdv A outer s H vs Q E hr h => ?_)
  · obtain ⟨rfl, _⟩ := h
    rfl
  · obtain ⟨rfl, hQ⟩ := h
    have hu := hr.units
    refine ⟨_, (pss_cons (ps_set (i := 0) sc_law_by_hand.nd rfl (Or.inl rfl) (pe_m1 PySem.F.slot_str_split PySem.F.type_str_split mt_splitF pe_str pe_str))
    (pss_cons (ps_set (i := 0) sc_law_by_hand.nd rfl (Or.inl rfl) (pe_op op_cat (pv 0) (pe_m1 PySem.F.slot_str_split PySem.F.type_str_split mt_splitF pe_str pe_str)))
    (pss_cons (ps_set (i := 0) sc_law_by_hand.nd rfl (Or.inl rfl) (pe_op op_cat (pv 0) (pe_m1 PySem.F.slot_str_split PySem.F.type_str_split mt_splitF pe_str pe_str)))
    (pss_cons (ps_set (i := 0) sc_law_by_hand.nd rfl (Or.inl rfl) (pe_op op_cat (pv 0) (pe_m1 PySem.F.slot_str_split PySem.F.type_str_split mt_splitF pe_str pe_str)))
    (pss_cons (ps_set (i := 0) sc_law_by_hand.nd rfl (Or.inl rfl) (pe_op op_cat (pv 0) (pe_m1 PySem.F.slot_str_split PySem.F.type_str_split mt_splitF pe_str pe_str)))
    (pss_cons (ps_set (i := 0) sc_law_by_hand.nd rfl (Or.inl rfl) (pe_op op_cat (pv 0) (pe_m1 PySem.F.slot_str_split PySem.F.type_str_split mt_splitF pe_str pe_str)))
    (pss_cons (ps_set (i := 0) sc_law_by_hand.nd rfl (Or.inl rfl) (pe_op op_cat (pv 0) (pe_m1 PySem.F.slot_str_split PySem.F.type_str_split mt_splitF pe_str pe_str)))
    (pss_cons (ps_set (i := 0) sc_law_by_hand.nd rfl (Or.inl rfl) (pe_op op_cat (pv 0) (pe_m1 PySem.F.slot_str_split PySem.F.type_str_split mt_splitF pe_str pe_str)))
    (pss_cons (ps_set (i := 0) sc_law_by_hand.nd rfl (Or.inl rfl) (pe_op op_cat (pv 0) (pe_lst (pa_cons pe_str (pa_cons pe_str (pa_cons pe_str (pa_cons pe_str (pa_cons pe_str (pa_cons pe_str pa_nil)))))))))
    (pss_one (ps_ret (pe_op op_cat (pv 0) (pe_lst (pa_cons pe_str (pa_cons pe_str pa_nil))))))))))))))), ?_⟩
    walk_at "rd"
    have z : (5000 : Nat) ≤ sizeLine := by decide
    refine ⟨_, _, rfl, rfl, by decide +kernel, by decide +kernel, fun p1 hp1 => ?_⟩
    have lt : ∀ s : Str, (s.length == 0) = false → ∀ t : Str, t.length ≤ 120 → (Txt.split t s).length ≤ 122 := fun s hs t ht => Nat.le_trans (split_len t s) (by omega)
    refine split_step 122 (same_new hp1) upd_same (lt _ (by decide +kernel) _ (by decide +kernel)) (by decide) (by decide +kernel) (by decide +kernel) fun p2 H2 s2 _ e2 l2 => ?_
    refine split_step _ s2 e2 l2 (by decide) (by decide +kernel) (by decide +kernel) fun p3 H3 s3 _ e3 l3 => ?_
    refine split_step _ s3 e3 l3 (by decide) (by decide +kernel) (by decide +kernel) fun p4 H4 s4 _ e4 l4 => ?_
    refine split_step _ s4 e4 l4 (by decide) (by decide +kernel) (by decide +kernel) fun p5 H5 s5 _ e5 l5 => ?_
    refine split_step _ s5 e5 l5 (by decide) (by decide +kernel) (by decide +kernel) fun p6 H6 s6 _ e6 l6 => ?_
    refine split_step _ s6 e6 l6 (by decide) (by decide +kernel) (by decide +kernel) fun p7 H7 s7 _ e7 l7 => ?_
    refine split_step _ s7 e7 l7 (by decide) (by decide +kernel) (by decide +kernel) fun p8 H8 s8 _ e8 l8 => ?_
    refine ⟨by decide, fun q hq => ?_⟩
    refine list_step (ys := ["put item 1\n", "\nput item 1", "put item 1\n\ntake item 0", "put item 1\ntake item 0", "\n", " "]) s8 hq e8 (Nat.le_trans l8 (by decide)) (by decide) fun p9 H9 s9 _ e9 => ?_
    refine ⟨by decide, fun r hr => ?_⟩
    refine list_step (ys := ["take item 1\ntake item 1", "put item 1\n put item 2"]) s9 hr e9 (by rw [List.length_append]; exact Nat.le_trans (Nat.add_le_add_right l8 _) (by decide)) (by decide) fun p H' s' n' e' => ?_
    exact hQ p H' s' n' e'
theorem hand_len : handTexts.length ≤ 200 := by decide +kernel
theorem hand_ok : handTexts.all (fun x => decide (x.length ≤ 200) && x.cps.toList.all fun c => decide (c < 128)) = true := by decide +kernel
end
end K96

namespace K96
open PySem PySem.Spec PyProof.Rows L2 G96 TL
local macro_rules | `(tactic| walk_at "rd") => `(tactic| simp only [tSeq, tIfS, tOr, tAnd, tNot, tB, tCB, tCons, tNil, tVar, tC, tTest, tChain, rI0, tRet, tOp, tCall, tAsg, gName, tNext, tDrop, tIf, tAndV, tOrV, tNotV, tIsN, tNotN, tM0, tM1, tSl, tPart, tNoPart, rSlS, rEq, rNe, scal_ss, scal_ii, scal_bb, LenV_s, rIsStr, isStr_s, isStr_n, isStr_b, isStr_i, rInt1, tTup, tLst, tFmt, tUn, L2.start, List.map_cons, List.map_nil, List.length_cons, List.length_nil, List.replicate_succ, List.replicate_zero, List.cons_append, List.nil_append, List.append_nil, Nat.reduceAdd, Nat.reduceSub, Nat.sub_self, List.getElem?_cons_zero, List.getElem?_cons_succ, List.set_cons_zero, List.set_cons_succ, Option.some.injEq, exists_eq_left', exists_eq_left, and_assoc, exists_and_left, exists_eq', List.cons.injEq, true_and, and_true, V.int.injEq, V.str.injEq, V.bl.injEq, V.ref.injEq, reduceCtorEq, false_and, and_false, exists_false, or_false, false_or, if_true, if_false, Bool.not_true, Bool.not_false, Bool.false_eq_true, ite_true, ite_false, decide_true, decide_false, eq_self, tJs, rU, gTup, gNil, gCons, StX.tStar, cx_K, must_t, must_f, rNewStrs, rI, tPar, tDGet, sDPut, tBM, tBM0, tDisp, tPairs, tPar3, tRevL, rI])
section
variable {P : Program} {w : World} {K : PySem.W.Frag} {mg : Str → Option Value} {base : Heap}
def bentA : List Str := Txt.split (Str.ofString "put take item nothing 0 -0 01 -1 1000000000000 1000000000001 -1000000000001 5") (Str.ofString " ")
def bentB : List Str := ["\"a\"", "\"\"", "\"abcdefgh\"", "\"abcdefghi\"", "\"A\"", "\"a", "a\"", "\"a b\"", "", "Nothing", "+1", "1.0"]
theorem bent_ok : (bentA ++ bentB).all (fun w => decide (w.length ≤ 14) && w.cps.toList.all fun c => decide (c < 128)) = true := by decide +kernel
theorem bent_len : (bentA ++ bentB).length = 24 := by decide +kernel
theorem bent_w {w : Str} (h : w ∈ bentA ++ bentB) : (∀ c ∈ tl w, c < 128) ∧ w.length ≤ 14 := by
  have q := List.all_eq_true.mp bent_ok w h
  rw [Bool.and_eq_true] at q
  exact ⟨fun c hc => of_decide_eq_true (List.all_eq_true.mp q.2 c hc), of_decide_eq_true q.1⟩
def bentS : Str := " \"-0a9Z\n\n,;"
theorem bent_s : bentS.cps.toList.all (fun c => decide (c < 128)) = true := by decide +kernel
def sp_law_bent : Sp := fun vs H Q _ => ∃ p l N W L x, vs = [.ref p, .str x] ∧ DeckB H p l N ∧ N < 999900 ∧ 20 ≤ W ∧ 20 ≤ L ∧ L ≤ 5000 ∧ TextA W L x ∧ ∀ y H', TextA (2 * W + 1) (2 * L + 30) y → Stp p l (N + 8) H H' → Q (.str y) H'
theorem ok_law_bent (Z : Tx K mg base) : OkC P w K mg base L2.CX0 3 "_law_bent" ["deck", "it"] sp_law_bent := by
  refine mk0_law_bent Z sc_law_bent (fun vs H Q E h => ?_) (fun cdv A outer s H vs Q E hr h => ?_)
  · obtain ⟨p, l, N, W, L, x, rfl, _⟩ := h
    rfl
  · obtain ⟨p, l, N, W, L, x, rfl, hd, hN, hW, hL0, hL, hx, hQ⟩ := h
    have hu := hr.units
    refine ⟨_, (pss_cons (ps_par3 (i := 5) (j := 6) (l := 7) (by rfl) sc_law_bent.nd rfl rfl rfl (by decide) (by decide) (by decide) rfl rfl rfl (pa_cons (pe_c (ok_law_draw Z) hr (by decide) rfl pass0 (pa_cons (pv 0) (pa_cons pe_int pa_nil))) (pa_cons (pe_c (ok_law_draw Z) hr (by decide) rfl pass0 (pa_cons (pv 0) (pa_cons (pe_op op_add (pe_callB call_len (by rfl) Z.n_len (by decide +kernel) (pa_cons (pv 1) pa_nil)) pe_int) pa_nil))) (pa_cons (pe_c (ok_law_draw Z) hr (by decide) rfl pass0 (pa_cons (pv 0) (pa_cons (pe_op op_add (pe_callB call_len (by rfl) Z.n_len (by decide +kernel) (pa_cons (pv 1) pa_nil)) pe_int) pa_nil))) pa_nil))) (by rfl))
    (pss_cons (ps_set (i := 2) sc_law_bent.nd rfl (Or.inl rfl) (pe_m1 PySem.F.slot_str_split PySem.F.type_str_split mt_splitF (pv 1) pe_str))
    (pss_cons (ps_par (i := 8) (j := 9) (by rfl) sc_law_bent.nd rfl rfl (by decide) rfl rfl (pa_cons (pe_c (ok_law_draw Z) hr (by decide) rfl pass0 (pa_cons (pv 0) (pa_cons (pe_callB call_len (by rfl) Z.n_len (by decide +kernel) (pa_cons (pv 2) pa_nil)) pa_nil))) (pa_cons (pe_c (ok_law_draw Z) hr (by decide) rfl pass0 (pa_cons (pv 0) (pa_cons (pe_callB call_len (by rfl) Z.n_len (by decide +kernel) (pa_cons (pv 2) pa_nil)) pa_nil))) pa_nil)) (by rfl))
    (pss_cons (ps_set (i := 3) sc_law_bent.nd rfl (Or.inl rfl) (pe_m1 PySem.F.slot_str_split PySem.F.type_str_split mt_splitF pe_str pe_str))
    (pss_cons (ps_set (i := 3) sc_law_bent.nd rfl (Or.inl rfl) (pe_op op_cat (pv 3) (pe_lst (pa_cons pe_str (pa_cons pe_str (pa_cons pe_str (pa_cons pe_str (pa_cons pe_str (pa_cons pe_str (pa_cons pe_str (pa_cons pe_str (pa_cons pe_str (pa_cons pe_str (pa_cons pe_str (pa_cons pe_str pa_nil)))))))))))))))
    (pss_cons (ps_set (i := 4) sc_law_bent.nd rfl (Or.inl rfl) (pe_c (ok_law_pick Z) hr (by decide) rfl pass0 (pa_cons (pv 0) (pa_cons pe_str pa_nil))))
    (pss_cons (ps_if (pt_cmpR op_lt (pv 5) pe_int (nomark _)) (pss_one (ps_ret (pe_m1 PySem.F.slot_str_join PySem.F.type_str_join mt_joinF pe_str (pe_op op_cat (pe_op op_cat (pe_slice sl_list (pv 2) po_none (po_some (pv 8))) (pe_op op_rep (pe_lst (pa_cons (pe_c (ok_law_pick Z) hr (by decide) rfl pass0 (pa_cons (pv 0) (pa_cons (pv 3) pa_nil))) pa_nil)) (pe_callTy call_intF (by rfl) Z.n_int (by decide +kernel) (pa_cons (pe_cmpR op_lt (pv 5) pe_int (nomark _)) pa_nil)))) (pe_slice sl_list (pv 2) (po_some (pe_op op_add (pv 8) (pe_callTy call_intF (by rfl) Z.n_int (by decide +kernel) (pa_cons (pe_cmpR op_gt (pv 5) pe_int (nomark _)) pa_nil)))) po_none))))) pss_nil)
    (pss_cons (ps_if (pt_cmpR op_eq (pv 5) pe_int (nomark _)) (pss_one (ps_ret (pe_m1 PySem.F.slot_str_join PySem.F.type_str_join mt_joinF pe_str (pe_op op_cat (pe_op op_cat (pe_slice sl_list (pv 2) po_none (po_some (pv 8))) (pe_revL (pe_slice sl_list (pv 2) (po_some (pv 8)) (po_some (pe_op op_add (pv 8) pe_int))))) (pe_slice sl_list (pv 2) (po_some (pe_op op_add (pv 8) pe_int)) po_none))))) pss_nil)
    (pss_cons (ps_if (pt_cmpR op_eq (pv 5) pe_int (nomark _)) (pss_one (ps_ret (pe_m1 PySem.F.slot_str_join PySem.F.type_str_join mt_joinF pe_str (pe_op op_cat (pe_slice sl_list (pv 2) po_none (po_some (pe_op op_add (pv 8) pe_int))) (pe_slice sl_list (pv 2) (po_some (pv 9)) po_none))))) pss_nil)
    (pss_cons (ps_if (pt_cmpR op_lt (pv 5) pe_int (nomark _)) (pss_one (ps_ret (pe_op op_add_str (pe_op op_add_str (pe_slice sl_str (pv 1) po_none (po_some (pv 6))) (pv 4)) (pe_slice sl_str (pv 1) (po_some (pe_op op_add (pv 6) (pe_op op_modN (pe_callTy call_intF (by rfl) Z.n_int (by decide +kernel) (pa_cons (pv 5) pa_nil)) pe_int))) po_none)))) pss_nil)
    (pss_cons (ps_if (pt_cmpR op_eq (pv 5) pe_int (nomark _)) (pss_one (ps_ret (pe_op op_add_str (pe_slice sl_str (pv 1) po_none (po_some (pv 6))) (pe_slice sl_str (pv 1) (po_some (pe_op op_add (pv 6) pe_int)) po_none)))) pss_nil)
    (pss_one (ps_ret (pe_ifExp (pt_cmpR op_eq (pv 5) pe_int (nomark _)) (pe_slice sl_str (pv 1) po_none (po_some (pv 6))) (pe_op op_add_str (pe_op op_add_str (pe_slice sl_str (pv 1) po_none (po_some (pv 6))) (pe_slice sl_str (pv 1) (po_some (pe_callB (call_min2 rfl) (by rfl) Z.n_min (by decide +kernel) (pa_cons (pv 6) (pa_cons (pv 7) pa_nil)))) (po_some (pe_callB (call_max2 rfl) (by rfl) Z.n_max (by decide +kernel) (pa_cons (pv 6) (pa_cons (pv 7) pa_nil)))))) (pe_slice sl_str (pv 1) (po_some (pv 6)) po_none)))))))))))))))), ?_⟩
    walk_at "rd"
    have line : (100000 : Nat) ≤ sizeLine := by decide
    have hxl := hx.len
    refine ⟨p, l, N, 10, rfl, hd, by omega, by decide, by decide, fun way H1 hw s1 => ?_⟩
    refine ⟨by omega, p, l, N + 1, x.length + 1, rfl, s1.deck, by omega, by omega, by omega, fun at_ H2 hat s2 => ?_⟩
    refine ⟨by omega, p, l, N + 2, x.length + 1, rfl, s2.deck, by omega, by omega, by omega, fun to H3 hto s3 => ?_⟩
    have s13 := (s1.trans s2).trans s3
    refine ⟨_, _, rfl, rfl, by decide +kernel, by omega, fun ws hws => ?_⟩
    generalize hwsl : Txt.split x (Str.ofString " ") = wl
    have wsm : wsum wl = x.length + 1 := by rw [← hwsl]; exact wsum_split x
    have wok : ∀ w ∈ wl, WOk W w := fun w hw => (hx.words (hwsl ▸ hw)).wok
    have wlen : wl.length ≤ 5001 := Nat.le_trans (wsum_len wl) (by omega)
    have wpos : 0 < wl.length := by
      cases wl with
      | nil => cases wsm
      | cons a r => exact Nat.succ_pos _
    have hws1 := (s13.deck.ne_new hws)
    have s14 := s13.new hws (o := .lst (wl.map V.str))
    have lw : upd H3 ws (.lst (wl.map V.str)) ws = some (.lst (wl.map V.str)) := upd_same
    generalize upd H3 ws (.lst (wl.map V.str)) = H4 at s14 lw
    refine ⟨wl.length, by rw [← List.length_map (as := wl) V.str]; exact LenV_l (.of lw), p, l, N + 3, wl.length, rfl, s14.deck, by omega, wpos, by omega, fun spot H5 hspot s5 => ?_⟩
    have lw5 := s5.keep _ _ hws1.1 hws1.2 lw
    refine ⟨wl.length, by rw [← List.length_map (as := wl) V.str]; exact LenV_l (.of lw5), p, l, N + 4, wl.length, rfl, s5.deck, by omega, wpos, by omega, fun far H6 hfar s6 => ?_⟩
    have lw6 := s6.keep _ _ hws1.1 hws1.2 lw5
    have s16 := (s14.trans s5).trans s6
    refine ⟨_, _, rfl, rfl, by decide +kernel, by decide +kernel, fun q1 hq1 => ?_⟩
    have lq : upd H6 q1 (.lst (bentA.map V.str)) q1 = some (.lst (bentA.map V.str)) := upd_same
    have s17 := s16.new hq1 (o := .lst (bentA.map V.str))
    have lw7 := same_new (o := .lst (bentA.map V.str)) hq1 _ _ lw6
    rw [show Txt.split (Str.ofString "put take item nothing 0 -0 01 -1 1000000000000 1000000000001 -1000000000001 5") (Str.ofString " ") = bentA from rfl]
    generalize upd H6 q1 (.lst (bentA.map V.str)) = H7 at s17 lw7 lq
    refine ⟨by decide, fun q2 hq2 => ?_⟩
    rw [show [V.str (Str.ofString "\"a\""), V.str (Str.ofString "\"\""), V.str (Str.ofString "\"abcdefgh\""), V.str (Str.ofString "\"abcdefghi\""), V.str (Str.ofString "\"A\""), V.str (Str.ofString "\"a"), V.str (Str.ofString "a\""), V.str (Str.ofString "\"a b\""), V.str (Str.ofString ""), V.str (Str.ofString "Nothing"), V.str (Str.ofString "+1"), V.str (Str.ofString "1.0")] = bentB.map V.str from rfl]
    have la : bentA.length ≤ 24 := by have := bent_len; rw [List.length_append] at this; omega
    have lb : bentB.length = 12 := by decide
    refine ⟨q1, q2, bentA.map V.str, bentB.map V.str, rfl, rfl, same_new hq2 _ _ lq, upd_same, Nat.le_trans (show _ ≤ 36 by rw [List.length_map, List.length_map]; omega) (by decide), fun q3 hq3 => ?_⟩
    have hq3' := hq3
    rw [← List.map_append]
    have s18 := (s17.new hq2 (o := .lst (bentB.map V.str))).new hq3 (o := .lst ((bentA ++ bentB).map V.str))
    have hs1 := (s17.new hq2 (o := .lst (bentB.map V.str))).deck.ne_new hq3
    have lw8 := same_new (o := .lst ((bentA ++ bentB).map V.str)) hq3 _ _ (same_new (o := .lst (bentB.map V.str)) hq2 _ _ lw7)
    have ls8 : upd (upd H7 q2 (.lst (bentB.map V.str))) q3 (.lst ((bentA ++ bentB).map V.str)) q3 = some (.lst ((bentA ++ bentB).map V.str)) := upd_same
    generalize upd (upd H7 q2 (HO.lst (bentB.map V.str))) q3 (.lst ((bentA ++ bentB).map V.str)) = H8 at s18 lw8 ls8
    refine ⟨p, l, N + 5, _, rfl, s18.deck, by omega, .inr ⟨bentS, rfl, by decide, by decide, fun c H9 hc s9 => ?_⟩⟩
    have lw9 := s9.keep _ _ hws1.1 hws1.2 lw8
    have ls9 := s9.keep _ _ hs1.1 hs1.2 ls8
    have s19 := s18.trans s9
    refine ⟨_, rfl, ?_⟩
    have hc7 : c < 128 := of_decide_eq_true (List.all_eq_true.mp bent_s c hc)
    have sub_len : ∀ lo hi, (cutL wl lo hi).length ≤ 5001 := fun lo hi => Nat.le_trans (wsum_len _) (Nat.le_trans (cutL_wsum wl lo hi) (by omega))
    have sub_ok : ∀ lo hi w, w ∈ cutL wl lo hi → WOk (2 * W + 1) w := fun lo hi w hw => by
      have q := wok w (cutL_sub hw)
      exact ⟨q.1, q.2.mono (by omega)⟩
    by_cases c1 : (way : Int) < 3
    · rw [if_pos (decide_eq_true c1)]
      refine ⟨_, rfl, sl_step (Same.refl _) lw9 fun a1 H10 n1 s10 _ l1 => ?_⟩
      have na1 := s19.deck.ne_new n1
      have s1A := s19.andSame s10
      refine ⟨p, l, N + 6, _, rfl, s1A.deck, by omega, .inl ⟨q3, _, rfl, hs1.2, s10 _ _ ls9, by rw [List.length_map, bent_len]; decide, by rw [List.length_map, bent_len]; decide, fun i xx H11 hxx s11 => ?_⟩⟩
      obtain ⟨w0, hw0, rfl⟩ := at_map hxx
      have w0ok := bent_w (List.mem_of_getElem? hw0)
      have s1B := s1A.trans s11
      have l1 := s11.keep _ _ na1.1 na1.2 l1
      have lw11 := s11.keep _ _ hws1.1 hws1.2 (s10 _ _ lw9)
      obtain ⟨us, eu, hu1, hu2, hu3⟩ := flat_one w0 (decide ((way : Int) < 2))
      refine ⟨by decide, fun q4 hq4 => ⟨_, rfl, q4, _, _, rfl, rfl, upd_same, by split <;> decide, by split <;> decide, by show 1 * _ ≤ sizeLine; split <;> decide, fun q5 hq5 => ?_⟩⟩
      have s1C := (s1B.new hq4 (o := .lst [V.str w0])).new hq5 (o := .lst (us.map V.str))
      rw [eu]
      have l1 := same_new (o := .lst (us.map V.str)) hq5 _ _ (same_new (o := .lst [V.str w0]) hq4 _ _ l1)
      have lw12 := same_new (o := .lst (us.map V.str)) hq5 _ _ (same_new (o := .lst [V.str w0]) hq4 _ _ lw11)
      have l5 : upd (upd H11 q4 (.lst [V.str w0])) q5 (.lst (us.map V.str)) q5 = some (.lst (us.map V.str)) := upd_same
      generalize upd (upd H11 q4 (.lst [V.str w0])) q5 (.lst (us.map V.str)) = H12 at s1C l1 lw12 l5
      have len1 := sub_len none (some (spot : Nat))
      refine cat_step (Same.refl _) l1 l5 (by omega) fun a2 H13 s13' _ l2 => ⟨_, rfl, _, rfl, sl_step s13' (s13' _ _ lw12) fun a3 H14 _ s14' s14'' l3 => cat_step s14' (s14'' _ _ l2) l3 ?_ fun a4 H15 s15' _ l4 => ?_⟩
      · rw [List.length_append]
        exact Nat.le_trans (Nat.add_le_add (Nat.add_le_add len1 hu3) (sub_len _ _)) (by decide)
      · refine join_step (W := 2 * W + 1) (M := 2 * L + 30) s15' l4 (fun w hw => ?_) ?_ (by omega) fun y hy => hQ y _ hy ((s1C.andSame s15').mono (by omega))
        · rcases List.mem_append.mp hw with hw | hw
          · rcases List.mem_append.mp hw with hw | hw
            · exact sub_ok _ _ w hw
            · rw [hu1 w hw]
              exact ⟨w0ok.1, Rn.short (by rw [← len_tl]; omega)⟩
          · exact sub_ok _ _ w hw
        · rw [wsum_append, wsum_append]
          have g3 := w0ok.2
          exact Nat.le_trans (Nat.add_le_add (Nat.add_le_add (cutL_wsum wl _ _) hu2) (cutL_wsum wl _ _)) (by omega)
    rw [if_neg (by rw [decide_eq_true_eq]; exact c1)]
    refine ⟨scal_ii, ?_⟩
    by_cases c2 : (way : Int) = 3
    · rw [if_pos (decide_eq_true (by rw [c2]))]
      refine ⟨_, rfl, sl_step (Same.refl _) lw9 fun a1 H10 _ s10 _ l1 => ⟨_, rfl, _, rfl, sl_step s10 (s10 _ _ lw9) fun a2 H11 _ s11 s11' l2 => ⟨a2, rfl, _, .of l2, fun q4 hq4 => ?_⟩⟩⟩
      have l2' : upd H11 q4 (.lst ((cutL wl (some (spot : Nat)) (some ((spot : Int) + 2))).map V.str).reverse) q4 = some (.lst (((cutL wl (some (spot : Nat)) (some ((spot : Int) + 2))).reverse).map V.str)) := by rw [upd_same, List.map_reverse]
      have l1' := same_new (o := .lst ((cutL wl (some (spot : Nat)) (some ((spot : Int) + 2))).map V.str).reverse) hq4 _ _ (s11' _ _ l1)
      have s12 := sameNew s11 hq4 (o := .lst ((cutL wl (some (spot : Nat)) (some ((spot : Int) + 2))).map V.str).reverse)
      have g1 := sub_len none (some (spot : Nat))
      have g2 := sub_len (some (spot : Nat)) (some ((spot : Int) + 2))
      have g3 := sub_len (some ((spot : Int) + 2)) none
      refine cat_step s12 l1' l2' (by rw [List.length_reverse]; omega) fun a3 H12 s13 _ l3 => ⟨_, rfl, sl_step s13 (s13 _ _ lw9) fun a4 H13 _ s14 s14' l4 => cat_step s14 (s14' _ _ l3) l4 (by rw [List.length_append, List.length_reverse]; omega) fun a5 H14 s15 _ l5 => ?_⟩
      refine join_step (W := 2 * W + 1) (M := 2 * L + 30) s15 l5 (fun w hw => ?_) ?_ (by omega) fun y hy => hQ y _ hy ((s19.andSame s15).mono (by omega))
      · rcases List.mem_append.mp hw with hw | hw
        · rcases List.mem_append.mp hw with hw | hw
          · exact sub_ok _ _ w hw
          · exact sub_ok _ _ w (List.mem_reverse.mp hw)
        · exact sub_ok _ _ w hw
      · rw [wsum_append, wsum_append, wsum_reverse]
        have g := cut3 wl spot
        omega
    rw [if_neg (by rw [decide_eq_true_eq]; exact fun z => c2 (V.int.inj z))]
    refine ⟨scal_ii, ?_⟩
    by_cases c3 : (way : Int) = 4
    · rw [if_pos (decide_eq_true (by rw [c3]))]
      refine ⟨_, rfl, sl_step (Same.refl _) lw9 fun a1 H10 _ s10 _ l1 => ⟨_, rfl, sl_step s10 (s10 _ _ lw9) fun a2 H11 _ s11 s11' l2 => cat_step s11 (s11' _ _ l1) l2 ?_ fun a3 H12 s12 _ l3 => ?_⟩⟩
      · have g1 := sub_len none (some ((spot : Int) + 1))
        have g2 := sub_len (some (far : Nat)) none
        omega
      · refine join_step (W := 2 * W + 1) (M := 2 * L + 30) s12 l3 (fun w hw => ?_) ?_ (by omega) fun y hy => hQ y _ hy ((s19.andSame s12).mono (by omega))
        · rcases List.mem_append.mp hw with hw | hw
          · exact sub_ok _ _ w hw
          · exact sub_ok _ _ w hw
        · rw [wsum_append]
          have g1 := cutL_wsum wl none (some ((spot : Int) + 1))
          have g2 := cutL_wsum wl (some (far : Nat)) none
          omega
    rw [if_neg (by rw [decide_eq_true_eq]; exact fun z => c3 (V.int.inj z))]
    refine ⟨_, rfl, ?_⟩
    have s1Z := s19.mono (show N + 5 + 1 ≤ N + 8 by omega)
    by_cases c4 : (way : Int) < 7
    · rw [if_pos (decide_eq_true c4)]
      have ec : TextA (2 * W + 1) (2 * L + 30) (cutS x none (some (at_ : Nat)) ++ (⟨#[c]⟩ : Str) ++ cutS x (some ((at_ : Int) + Int.fmod way 2)) none) := by
        have h1 : TextA W L (cutS x none (some (at_ : Nat))) := hx.sub (cut_infix _ _ _)
        have h2 : TextA W L (cutS x (some ((at_ : Int) + Int.fmod way 2)) none) := hx.sub (cut_infix _ _ _)
        have h3 : TextA 1 1 (⟨#[c]⟩ : Str) := TextA.short (fun c' hc' => by rw [List.mem_singleton.mp hc']; exact hc7) (Nat.le_refl _) (Nat.le_refl _)
        exact ((h1.append h3).append h2).mono (by omega) (by omega)
      have l1 := cutS_length x none (some (at_ : Nat))
      have l2 := cutS_length x (some ((at_ : Int) + Int.fmod way 2)) none
      have l3 : (⟨#[c]⟩ : Str).length = 1 := rfl
      refine ⟨_, rfl, by omega, _, rfl, by omega, by decide, _, rfl, by omega, by rw [app_len]; omega, hQ _ _ ec s1Z⟩
    rw [if_neg (by rw [decide_eq_true_eq]; exact c4)]
    refine ⟨scal_ii, ?_⟩
    by_cases c5 : (way : Int) = 7
    · rw [if_pos (decide_eq_true (by rw [c5]))]
      have l1 := cutS_length x none (some (at_ : Nat))
      have l2 := cutS_length x (some ((at_ : Int) + 1)) none
      refine ⟨_, rfl, by omega, _, rfl, by omega, by omega, hQ _ _ (text_two hx (tl_append _ _) (cut_infix _ _ _) (cut_infix _ _ _)) s1Z⟩
    rw [if_neg (by rw [decide_eq_true_eq]; exact fun z => c5 (V.int.inj z))]
    refine ⟨scal_ii, ?_⟩
    by_cases c6 : (way : Int) = 8
    · rw [if_pos (decide_eq_true (by rw [c6]))]
      exact ⟨_, rfl, by omega, hQ _ _ ((hx.sub (cut_infix _ _ _)).mono (by omega) (by omega)) s1Z⟩
    rw [if_neg (by rw [decide_eq_true_eq]; exact fun z => c6 (V.int.inj z))]
    have l1 := cutS_length x none (some (at_ : Nat))
    have l3 := cutS_length x (some (at_ : Nat)) none
    have e1 : (if (to : Int) < (at_ : Int) then (to : Int) else (at_ : Int)) = ((min at_ to : Nat) : Int) := by split <;> omega
    have e2 : (if (to : Int) > (at_ : Int) then (to : Int) else (at_ : Int)) = ((max at_ to : Nat) : Int) := by split <;> omega
    have l2 := cutS_length x (some ((min at_ to : Nat) : Int)) (some ((max at_ to : Nat) : Int))
    have ln : 3 * x.length ≤ 100000 := by omega
    refine ⟨_, rfl, by omega, _, rfl, _, rfl, _, rfl, _, rfl, by omega, ?_⟩
    rw [e1, e2]
    refine ⟨by omega, _, rfl, by omega, by rw [app_len]; omega, ?_⟩
    obtain ⟨a, b, g1, g2, g3⟩ := cut_mid (x := x) (a := at_) (t := to) (by omega) (by omega)
    exact hQ _ _ (text_two hx g1 g2 g3) s1Z
end
end K96

namespace K96
open PySem PySem.Spec PyProof.Rows L2 G96 TL
local macro_rules | `(tactic| walk_at "rd") => `(tactic| simp only [tSeq, tIfS, tOr, tAnd, tNot, tB, tCB, tCons, tNil, tVar, tC, tTest, tChain, rI0, tRet, tOp, tCall, tAsg, gName, tNext, tDrop, tIf, tAndV, tOrV, tNotV, tIsN, tNotN, tM0, tM1, tSl, tPart, tNoPart, rSlS, rEq, rNe, scal_ss, scal_ii, scal_bb, LenV_s, rIsStr, isStr_s, isStr_n, isStr_b, isStr_i, rInt1, tTup, tLst, tFmt, tUn, L2.start, List.map_cons, List.map_nil, List.length_cons, List.length_nil, List.replicate_succ, List.replicate_zero, List.cons_append, List.nil_append, List.append_nil, Nat.reduceAdd, Nat.reduceSub, Nat.sub_self, List.getElem?_cons_zero, List.getElem?_cons_succ, List.set_cons_zero, List.set_cons_succ, Option.some.injEq, exists_eq_left', exists_eq_left, and_assoc, exists_and_left, exists_eq', List.cons.injEq, true_and, and_true, V.int.injEq, V.str.injEq, V.bl.injEq, V.ref.injEq, reduceCtorEq, false_and, and_false, exists_false, or_false, false_or, if_true, if_false, Bool.not_true, Bool.not_false, Bool.false_eq_true, ite_true, ite_false, decide_true, decide_false, eq_self, tJs, rU, gTup, gNil, gCons, StX.tStar, cx_K, must_t, must_f, rNewStrs, rI, tPar, tDGet, sDPut, tBM, tBM0, tDisp, tPairs, tPar3, tRevL, rI])
open LamX
section
/-- told: the value, or that the text is invalid -/
def TTold2 (CI : Addr) : (XK → Hp → VK → Prop) → Hp → VK → Prop := fun tl H Q =>
  tl (fun cls d H' => cls = .ref CI ∧ d = none ∧ ∀ p, H' p = none → Q (.ref p) (upd H' p (.tup [.str "invalid", .bl true]))) H fun v H' => 2 ≤ sizeLine ∧ ∀ p, H' p = none → Q (.ref p) (upd H' p (.tup [.str "told", v]))
theorem told2_gives {X : Cx} (Z : Tx X.K X.mg X.base) (q : Str) (cdg : Value) : GivesTo X ["call", "e"] "_law_told" (defScope s_law_told) (He.ga X.K "_law_told") cdg (defBody s_law_told) "call" q (TTold2 (cIT X.K)) := by
  intro f c' s H Q tl act hc h
  refine ⟨_, pss_one (ps_try_as (X := (cxOf C8.CX0 X.prog X.w X.K X.mg X.base ["call", "e"] "_law_told" (defScope s_law_told) (He.ga X.K "_law_told") cdg X.A X.stack s H C8.E0).nox) (c := .ref (cIT X.K)) (i := 1)
      (tb := fun W D σ H => ∃ Ech : XK, (∀ cls d σ' H', Ech cls d H' → W cls d σ' H') ∧ σ[0]? = some (some (.ref f)) ∧ H c' = some (CodeO c' q) ∧ tl Ech H fun v H' => 2 ≤ sizeLine ∧ ∀ p, H' p = none → D.rt (.ref p) (upd H' p (.tup [.str "told", v])))
      (ts := fun a cls d D σ H => cls = .ref (cIT X.K) ∧ d = none ∧ (1 < σ.length → σ[1]? = some (some (.ref a))) ∧ ∀ p, H p = none → D.rt (.ref p) (upd H p (.tup [.str "invalid", .bl true])))
      rfl rfl sc_law_told.nd rfl rfl ⟨rfl, by decide, .inl Z.m_InvalidText⟩ LamX.takes0 (fun W pn xe tk _ => ?_) (fun a oe cls d pn hz hf => ?_)), ?_⟩
  · refine ⟨fun pins s' σ H' D I h' => ?_⟩
    obtain ⟨Ech, hW, h1, h2, h3⟩ := h'
    refine @PSs.run _ _ (tRet (tTup (tCons (tC (.str "told")) (tCons (fun σZ HZ Q => σZ[0]? = some (some (.ref f)) ∧ HZ c' = some (CodeO c' q) ∧ tl Ech HZ Q) tNil)))) ?_ pins s' σ H' D I ?_
    · exact pss_one (ps_ret (pe_tup (pa_cons pe_str (pa_cons (act W pn xe Ech _ _ tk hW) pa_nil))))
    · walk_at "rd"
      exact ⟨h1, h2, h3⟩
  · refine ⟨fun pins s' σ H' D I h' => ?_⟩
    obtain ⟨rfl, rfl, h1, h2⟩ := h'
    refine @PSs.run _ _ (tRet (tTup (tCons (tC (.str "invalid")) (tCons (tCB (rIsE X.K (cIT X.K) a) (tCons (tVar 1) (tCons (tC (.ref (cFE X.K))) tNil))) tNil)))) ?_ pins s' σ H' D I ?_
    · exact pss_one (ps_ret (pe_tup (pa_cons pe_str (pa_cons (pe_callB (call_isE Z.exC hz hf) (by rfl) Z.n_isinstance (by decide +kernel) (pa_cons (pv 1) (pa_cons (pe_glob rfl Z.m_FailsError rfl) pa_nil))) pa_nil))))
    · walk_at "rd"
      have hl : σ.length = 2 := I.len
      refine ⟨_, h1 (by omega), ?_⟩
      exact ⟨_, .ref (cFE X.K), true, rfl, fun u hu => hu, Z.kit, by decide, h2⟩
  · exact ⟨fun cls d H' => cls = .ref (cIT X.K) ∧ d = none ∧ ∀ p, H' p = none → Q (.ref p) (upd H' p (.tup [.str "invalid", .bl true])), fun cls d σ' H' ⟨e1, e2, e3⟩ => ⟨true, by rw [e1]; exact Z.te, fun _ a _ => ⟨e1, e2, fun hl => by
      rw [List.length_set] at hl
      exact List.getElem?_set_self hl, e3⟩, fun z => by cases z⟩, rfl, hc, h⟩
end
end K96

namespace K96
open PySem PySem.Spec PyProof.Rows L2 G96 TL
local macro_rules | `(tactic| walk_at "rd") => `(tactic| simp only [tSeq, tIfS, tOr, tAnd, tNot, tB, tCB, tCons, tNil, tVar, tC, tTest, tChain, rI0, tRet, tOp, tCall, tAsg, gName, tNext, tDrop, tIf, tAndV, tOrV, tNotV, tIsN, tNotN, tM0, tM1, tSl, tPart, tNoPart, rSlS, rEq, rNe, scal_ss, scal_ii, scal_bb, LenV_s, rIsStr, isStr_s, isStr_n, isStr_b, isStr_i, rInt1, tTup, tLst, tFmt, tUn, L2.start, List.map_cons, List.map_nil, List.length_cons, List.length_nil, List.replicate_succ, List.replicate_zero, List.cons_append, List.nil_append, List.append_nil, Nat.reduceAdd, Nat.reduceSub, Nat.sub_self, List.getElem?_cons_zero, List.getElem?_cons_succ, List.set_cons_zero, List.set_cons_succ, Option.some.injEq, exists_eq_left', exists_eq_left, and_assoc, exists_and_left, exists_eq', List.cons.injEq, true_and, and_true, V.int.injEq, V.str.injEq, V.bl.injEq, V.ref.injEq, reduceCtorEq, false_and, and_false, exists_false, or_false, false_or, if_true, if_false, Bool.not_true, Bool.not_false, Bool.false_eq_true, ite_true, ite_false, decide_true, decide_false, eq_self, tJs, rU, gTup, gNil, gCons, StX.tStar, cx_K, must_t, must_f, rNewStrs, rI, tPar, tDGet, sDPut, tBM, tBM0, tDisp, tPairs, tPar3, tRevL, rI])
open LamX
/-- _law_told(lambda: body) -/
theorem pe_told {X : Cx} {T : List (Addr × Str)} {c P : Addr} {k : Nat} {params : Arguments} {body : Expr} {scope : Scope} {t : XK → TE} {p lpos pos : Pos} (Z : Tx X.K X.mg X.base) (hg : Gl X "_law_told")
    (TB : TabB X.base X.mg c P) (hcode : X.env.code = .ref c) (hmT : (P, X.env.qual ++ "<lambda>") ∈ T) (hu : ∀ p ∈ T, p.1 = P → p.2 = X.env.qual ++ "<lambda>") (hr : Room (k + 2) X.A) (L : LamS X.env.scope scope) (hdef : defaultsOf params X.env = ([], []))
    (hbind : ∀ (q : Str) (cl : List (Str × Addr)) (pm cv ctv : Value), bindArgs (PySem.W.kla_fn "<lambda>" q params body scope cl pm cv ctv) ⟨[], []⟩ = pure [])
    (hbody : ∀ (A : Around) (outer : List Env) (s : Shared) (H : Hp) (E : XK) (f c' : Addr), Room k (A.deeper (lamEnv X scope s.heap.objs.size f c')) → PE (lamCx X A outer s H E scope f c') body (t E)) :
    PE X (.Call (.Name "_law_told" p) [.Lambda params body scope lpos] [] pos) (tLam T (TTold2 (cIT X.K)) t) := by
  obtain ⟨fd, F0⟩ := Z.c.def_ 24 (d := d_law_told) rfl
  have F : FnP X.K "_law_told" s_law_told (He.ga X.K "_law_told") fd := F0
  have hb : Binds X.K fd ["call"] [] := FunD.bindsN F fun _ _ _ _ _ _ us hl => match us, hl with | [_], _ => rfl
  obtain ⟨oc, od, dV, kV, doc, pm, an, cdv, ct, osl, efd, lk, hcd, _, _⟩ := F.ex
  subst efd
  exact pe_lamcall (a := "call") (Ng := ["call", "e"]) hg Z.m__law_told F.kp lk hcd hb sc_law_told rfl (Or.inl rfl) (told2_gives Z _ cdv) TB hcode hmT hu hr L hdef hbind hbody
/-- a def that is called where no repr is under way -/
structure OkG (P : Program) (w : World) (K : PySem.W.Frag) (mg : Str → Option Value) (base : Heap) (k : Nat) (x : Str) (ps : List Str) (sp : Sp) : Prop where
  ex : ∃ f fd, (∀ vs H Q E, sp vs H Q E → vs.length = ps.length) ∧
    (∀ (A : Around) (outer : List Env) (s : Shared) (H : Hp) (args : Args) (us : List Value) (vs : List V) (Q : VK), A.guards = some [] → Room k A → Env0 P w K mg base A outer s H → BindsTo s fd args (ps.zip us) → Vals vs us → sp vs H Q E0 →
      codeAny (model P w) A (.call (.ref f) args) (CR L2.CX0 outer P w H s Q E0) s) ∧ Binds K fd ps [] ∧ mg x = some (.ref f) ∧ PySem.W.keepIn K (.ref f) = true
theorem pe_cG {X : Cx} {k j : Nat} {x : Str} {ps : List Str} {sp : Sp} {p pos : Pos} {e : Expr} {es : List Expr} {t : TA} (c : OkG X.prog X.w X.K X.mg X.base k x ps sp) (hgd : X.A.guards = some []) (hr : Room j X.A) (hk : k ≤ j) (hg : Gl X x) (ha : PA X (e :: es) t) (hdb : (x == ("__debug__" : Str)) = false := by decide)
    (he : starEach (e :: es) X.env = (false, eval e X.env) :: starEach es X.env := by rfl) (hpl : (backTo pos (starEach es X.env)).any (·.1) = false := by rfl) : PE X (.Call (.Name x p) (e :: es) [] pos) (tCall sp [] E0 t) := by
  obtain ⟨f, fd, hlen, run, hb, hm, kp⟩ := c.ex
  constructor
  intro pins s σ H Q I h
  apply wpAny_Call_Name_kw
  apply ld_glob I hg hm _ hdb
  refine PySem.W.callWith_K (h₀ := X.base) I.ok.mod.kin kp ?_ he hpl
  refine thn (ha.run pos pins s σ H _ I h) ?_
  rintro us s1 ⟨vs, H1, I1, rv, hq⟩
  rw [List.append_nil] at hq
  have hl : us.length = ps.length := by rw [← rv.length]; exact hlen _ _ _ _ hq
  have hu := hb s1 us I1.kIn (by rw [List.append_nil]; exact hl)
  rw [List.append_nil] at hu
  refine ⟨I1.kIn, wpAny_call (codeAny_mono (run X.A X.stack s1 H1 ⟨us, []⟩ us vs Q hgd (hr.mono hk) I1.env0 hu rv hq) ?_)⟩
  intro r s2 hh
  match r, hh with
  | .error _, hh => exact (show False from hh).elim
  | .ok (.ret u), hh => exact I1.after hh
  | .ok .next, hh => exact (show False from hh).elim
  | .ok .brk, hh => exact (show False from hh).elim
  | .ok .cont, hh => exact (show False from hh).elim
theorem mkG {P : Program} {w : World} {K : PySem.W.Frag} {mg : Str → Option Value} {base : Heap} {x : Str} {st : Stmt} {fd : FuncData} {N ps : List Str} {k : Nat} {sp : Sp} {d : He.Defn} (hm : mg x = some (.ref (He.fAd K d))) (F : FnP K x st (He.fAd K d) fd) (S : FnScope N ps (defScope st)) (b : Binds K fd ps []) (len : ∀ vs H Q E, sp vs H Q E → vs.length = ps.length)
    (hbody : ∀ (A : Around) (outer : List Env) (s : Shared) (H : Hp) (vs : List V) (Q : VK), A.guards = some [] → Room k (A.deeper (envOfC x (defScope st) s.heap.objs.size (He.fAd K d) (.ref (He.cT K d).1))) → sp vs H Q E0 →
      ∃ t, PSs (cxOf L2.CX0 P w K mg base N x (defScope st) (He.fAd K d) (.ref (He.cT K d).1) A outer s H E0).nox (defBody st) t ∧ t { nx := fun _ H' => Q .non H', rt := Q } (L2.start N vs) H) : OkG P w K mg base (k + 1) x ps sp := by
  obtain ⟨oc, od, dV, kV, doc, pm, an, cdv, ct, osl, efd, lk, hcd, _, _⟩ := F.ex
  obtain ⟨c, ec⟩ := He.codeIn_ref hcd
  subst efd
  have e2 : He.codeOf K d = c := He.codeOf_eq (p := d) lk ec
  have e3 : cdv = .ref (He.cT K d).1 := by rw [ec, ← e2]; rfl
  subst e3
  refine ⟨He.fAd K d, _, len, fun A outer s H args us vs Q hgd hr e0 hb rv hs => ?_, b, hm, F.kp⟩
  exact run_ofS (N := N) lk hcd S hr e0 hb rv (len _ _ _ _ hs) fun hr' => let ⟨t, h1, h2⟩ := hbody A outer s H vs Q hgd hr' hs; ⟨t, h1.nox, h2⟩
end K96

namespace K96
open PySem PySem.Spec PyProof.Rows L2 G96 TL
theorem mapO_mem {α β : Type} {f : α → Option β} : ∀ {l : List α} {ys : List β}, mapO f l = some ys → ∀ y ∈ ys, ∃ x ∈ l, f x = some y
  | [], ys, h, y, hy => by
    cases h
    cases hy
  | x :: l, ys, h, y, hy => by
    unfold mapO at h
    split at h
    · rename_i z zs e1 e2
      cases h
      rcases List.mem_cons.mp hy with rfl | hy
      · exact ⟨x, List.mem_cons_self, e1⟩
      · obtain ⟨x', h1, h2⟩ := mapO_mem e2 y hy
        exact ⟨x', List.mem_cons_of_mem _ h1, h2⟩
    · cases h
theorem mapO_back {α β : Type} {f : α → Option β} {g : β → α} : ∀ {l : List α} {ys : List β}, mapO f l = some ys → (∀ x ∈ l, ∀ y, f x = some y → g y = x) → ys.map g = l
  | [], ys, h, _ => by
    cases h
    rfl
  | x :: l, ys, h, hg => by
    unfold mapO at h
    split at h
    · rename_i z zs e1 e2
      cases h
      rw [List.map_cons, hg x List.mem_cons_self z e1, mapO_back e2 fun x hx => hg x (List.mem_cons_of_mem _ hx)]
    · cases h
theorem mapO_all {α β : Type} {f : α → Option β} {g : β → α} : ∀ {ys : List β}, (∀ y ∈ ys, f (g y) = some y) → mapO f (ys.map g) = some ys
  | [], _ => rfl
  | y :: ys, h => by
    rw [List.map_cons]
    unfold mapO
    rw [h y List.mem_cons_self, mapO_all fun z hz => h z (List.mem_cons_of_mem _ hz)]
theorem lawB_show {x : Str} {ds : List Deed} (h : TextA 400 5000 x) (e : lawB x = some ds) : showB ds = x ∧ (∀ d ∈ ds, Deed.Ok d) ∧ ((ds.map showD).map (·.length)).sum + ds.length ≤ 100000 := by
  unfold lawB at e
  by_cases h0 : x = ""
  · rw [if_pos h0] at e
    cases e
    rw [h0]
    exact ⟨rfl, (fun _ z => by cases z), Nat.zero_le _⟩
  · rw [if_neg h0] at e
    have each : ∀ y ∈ Txt.split x (Str.ofString "\n"), ∀ d, lawD y = some d → showD d = y ∧ Deed.Ok d := fun y hy d hd => lawD_show (h.lines hy) hd
    have eb : ds.map showD = Txt.split x (Str.ofString "\n") := mapO_back e fun y hy d hd => (each y hy d hd).1
    have ej := join_split x tl_break (by decide)
    have es : showB ds = x := by
      show Txt.join (Str.ofString "\n") (ds.map showD) = x
      rw [eb, ej]
    refine ⟨es, fun d hd => ?_, ?_⟩
    · obtain ⟨y, hy, hyd⟩ := mapO_mem e d hd
      exact (each y hy d hyd).2
    · have q := split_len x (Str.ofString "\n")
      have ne : Txt.split x (Str.ofString "\n") ≠ [] := fun z => by
        rw [z] at ej
        exact h0 ej.symm
      have w := join_wsum tl_break ne
      rw [ej] at w
      have hx := h.len
      have s := wsum_sum (ds.map showD)
      rw [List.length_map] at s
      rw [s, eb]
      omega
def tell : PyData → PyData
  | .none => .tuple [.str "invalid", .bool true]
  | d => .tuple [.str "told", d]
theorem tell_sf {k : Nat} {d : PyData} (h : Sf k d) : Sf (k + 1) (tell d) ∧ (tell d).bulk ≤ d.bulk + 9 := by
  have e7 : (Str.ofString "invalid").cps.size = 7 := by decide +kernel
  have e4 : (Str.ofString "told").cps.size = 4 := by decide +kernel
  have lit : ∀ x : Str, x.cps.toList.all (fun c => decide (c < 128)) = true → Sf k (.str x) := fun x hx => (Sf.str fun c hc => of_decide_eq_true (List.all_eq_true.mp hx c hc)).mono (Nat.zero_le _)
  have inv : Sf (k + 1) (.tuple [.str "invalid", .bool true]) ∧ (PyData.tuple [.str "invalid", .bool true]).bulk ≤ 9 := by
    refine ⟨Sf.tup fun e he => ?_, ?_⟩
    · simp only [List.mem_cons, List.not_mem_nil, or_false] at he
      rcases he with rfl | rfl
      · exact lit _ (by decide +kernel)
      · exact (Sf.bool true).mono (Nat.zero_le _)
    · simp only [PyData.bulk, PyData.bulkAll, e7]
      omega
  have told : Sf (k + 1) (.tuple [.str "told", d]) ∧ (PyData.tuple [.str "told", d]).bulk ≤ d.bulk + 9 := by
    refine ⟨Sf.tup fun e he => ?_, ?_⟩
    · simp only [List.mem_cons, List.not_mem_nil, or_false] at he
      rcases he with rfl | rfl
      · exact lit _ (by decide +kernel)
      · exact h
    · simp only [PyData.bulk, PyData.bulkAll, e4]
      omega
  cases d with
  | none => exact ⟨inv.1, Nat.le_trans inv.2 (Nat.le_add_left _ _)⟩
  | _ => exact told
def dueD (x : Str) : PyData := .list [tell (optD (lawD x)), tell (optB (lawB x))]
theorem due_repr {x : Str} (h : TextA 400 5000 x) : ReprOk (dueD x) := by
  have hx := h.len
  have one : Sf 3 (optD (lawD x)) ∧ (optD (lawD x)).bulk ≤ 5003 := by
    cases e : lawD x with
    | none => exact ⟨Sf.none.mono (by decide), Nat.zero_le _⟩
    | some d =>
      obtain ⟨g1, g2⟩ := lawD_show h e
      have b := bulk_deed d
      rw [g1] at b
      exact ⟨(deed_sf g2 (lawD_good e).plain).mono (by decide), by show d.d.bulk ≤ 5003; omega⟩
  have all : Sf 3 (optB (lawB x)) ∧ (optB (lawB x)).bulk ≤ 21000 := by
    cases e : lawB x with
    | none => exact ⟨Sf.none.mono (by decide), Nat.zero_le _⟩
    | some ds =>
      obtain ⟨g1, g2, g3⟩ := lawB_show h e
      refine ⟨Sf.tup (k := 2) fun z hz => ?_, ?_⟩
      · obtain ⟨d, hd, rfl⟩ := List.mem_map.mp hz
        unfold lawB at e
        split at e
        · cases e
          cases hd
        · obtain ⟨y, hy, hyd⟩ := mapO_mem e d hd
          exact deed_sf (g2 d hd) (lawD_good hyd).plain
      · have b := bulk_batch ds
        show PyData.bulkAll (ds.map Deed.d) ≤ 21000
        cases hds : ds with
        | nil => exact Nat.zero_le _
        | cons d0 dr =>
          have ne : ds.map showD ≠ [] := by rw [hds]; exact List.cons_ne_nil _ _
          have w := join_wsum tl_break ne
          have w : (showB ds).length + 1 = wsum (ds.map showD) := w
          have l := wsum_len (ds.map showD)
          rw [List.length_map] at l
          rw [g1] at w
          rw [← hds]
          omega
  have t1 := tell_sf one.1
  have t2 := tell_sf all.1
  refine (Sf.lst (k := 4) fun z hz => ?_).repr (by decide) ?_
  · simp only [List.mem_cons, List.not_mem_nil, or_false] at hz
    rcases hz with rfl | rfl
    · exact t1.1
    · exact t2.1
  · have h1 := t1.2
    have h2 := t2.2
    have h3 := one.2
    have h4 := all.2
    simp only [PyData.bulk, PyData.bulkAll]
    omega
theorem text_repr {x : Str} (h : TextA 400 5000 x) : ReprOk (.list [.str x]) := by
  refine (Sf.lst (k := 0) fun z hz => ?_).repr (by decide) ?_
  · rw [List.mem_singleton.mp hz]
    exact Sf.str h.plain
  · have hx := h.len
    have e : x.cps.size = x.length := rfl
    simp only [PyData.bulk, PyData.bulkAll, e]
    omega
end K96

namespace K96
open PySem PySem.Spec PyProof.Rows L2 G96 TL
local macro_rules | `(tactic| walk_at "rd") => `(tactic| simp only [tSeq, tIfS, tOr, tAnd, tNot, tB, tCB, tCons, tNil, tVar, tC, tTest, tChain, rI0, tRet, tOp, tCall, tAsg, gName, tNext, tDrop, tIf, tAndV, tOrV, tNotV, tIsN, tNotN, tM0, tM1, tSl, tPart, tNoPart, rSlS, rEq, rNe, scal_ss, scal_ii, scal_bb, LenV_s, rIsStr, isStr_s, isStr_n, isStr_b, isStr_i, rInt1, tTup, tLst, tFmt, tUn, L2.start, List.map_cons, List.map_nil, List.length_cons, List.length_nil, List.replicate_succ, List.replicate_zero, List.cons_append, List.nil_append, List.append_nil, Nat.reduceAdd, Nat.reduceSub, Nat.sub_self, List.getElem?_cons_zero, List.getElem?_cons_succ, List.set_cons_zero, List.set_cons_succ, Option.some.injEq, exists_eq_left', exists_eq_left, and_assoc, exists_and_left, exists_eq', List.cons.injEq, true_and, and_true, V.int.injEq, V.str.injEq, V.bl.injEq, V.ref.injEq, reduceCtorEq, false_and, and_false, exists_false, or_false, false_or, if_true, if_false, Bool.not_true, Bool.not_false, Bool.false_eq_true, ite_true, ite_false, decide_true, decide_false, eq_self, tJs, rU, gTup, gNil, gCons, StX.tStar, cx_K, must_t, must_f, rNewStrs, LamX.tLam, rI, tPar, tDGet, sDPut, tBM, tBM0, tDisp, tPairs, tPar3, tRevL, rI])
open LamX
def T96 (K : PySem.W.Frag) : List (Addr × Str) := [((He.cT K ("_law_is_text_right", none)).2, (envOfC "_law_is_text_right" (defScope s_law_is_text_right) 0 0 .none).qual ++ "<lambda>"), ((He.cT K ("law", none)).2, (envOfC "law" (defScope s_law) 0 0 .none).qual ++ "<lambda>")]
theorem pe_imp {X : Cx} {e : Expr} {t t' : TE} (h : PE X e t) (g : ∀ σ H Q, t' σ H Q → t σ H Q) : PE X e t' := ⟨fun pins s σ H Q I q => h.run pins s σ H Q I (g σ H Q q)⟩
def teRead (sp : Sp) (E : XK) : TE := fun σ H Q => ∃ x b, σ[0]? = some (some (.str x)) ∧ σ[1]? = some (some (.bl b)) ∧ sp [.str x] H Q E
theorem teRead_if {sp : Sp} {E : XK} {σ : L2.St} {H : Hp} {Q : VK} {x : Str} {b : Bool} (h1 : σ[0]? = some (some (.str x))) (h2 : σ[1]? = some (some (.bl b))) (h3 : sp [.str x] H Q E) :
    tIf (tB (tVar 1)) (fun σ H Q => tCons (tVar 0) tNil σ H fun zs H1 => zs.length = 1 ∧ sp zs H1 Q E) (tCall sp [] E (tCons (tVar 0) tNil)) σ H Q := by
  cases b with
  | true => exact ⟨_, h2, true, rfl, _, h1, rfl, h3⟩
  | false => exact ⟨_, h2, false, rfl, _, h1, h3⟩
theorem told_deed {C : Addr} {σ : L2.St} {H : Hp} {Q : VK} {x : Str} {b : Bool} (h1 : σ[0]? = some (some (.str x))) (h2 : σ[1]? = some (some (.bl b))) (hx : LineOk x) (hQ : ∀ p H', Same H H' → H p = none → TD H' (.ref p) (tell (optD (readD x))) → Q (.ref p) H') :
    TTold2 C (fun E H' Q' => teRead (sp_read_deed C) E σ H' Q') H Q := by
  refine ⟨x, b, h1, h2, _, rfl, .inl ⟨x, rfl, hx, fun d v' H' e s t => ⟨by decide, fun p hp => hQ p _ (sameNew s hp) (none_of s hp) ?_⟩, fun H' s e => ⟨rfl, rfl, fun p hp => hQ p _ (sameNew s hp) (none_of s hp) ?_⟩⟩⟩
  · rw [e]
    have e2 : tell (optD (some d)) = .tuple [.str "told", d.d] := by cases d <;> rfl
    rw [e2]
    exact .tup upd_same (.cons (.str _) (.cons (t.mono (tupsOf (same_new hp))) .nil))
  · rw [e]
    exact .tup upd_same (.cons (.str _) (.cons (.bl _) .nil))
theorem told_batch {C : Addr} {σ : L2.St} {H : Hp} {Q : VK} {x : Str} {b : Bool} (h1 : σ[0]? = some (some (.str x))) (h2 : σ[1]? = some (some (.bl b))) (hx : TextOk x) (hQ : ∀ p H', Same H H' → H p = none → TD H' (.ref p) (tell (optB (readB x))) → Q (.ref p) H') :
    TTold2 C (fun E H' Q' => teRead (sp_read_batch C) E σ H' Q') H Q := by
  refine ⟨x, b, h1, h2, _, rfl, .inl ⟨x, rfl, hx, fun d v' H' e s t => ⟨by decide, fun p hp => hQ p _ (sameNew s hp) (none_of s hp) ?_⟩, fun H' s e => ⟨rfl, rfl, fun p hp => hQ p _ (sameNew s hp) (none_of s hp) ?_⟩⟩⟩
  · rw [e]
    exact .tup upd_same (.cons (.str _) (.cons (t.mono (tupsOf (same_new hp))) .nil))
  · rw [e]
    exact .tup upd_same (.cons (.str _) (.cons (.bl _) .nil))
/-- all but the tables of code objects stays -/
structure E2 (T : List (Addr × Str)) (H H' : Hp) : Prop where
  keep : ExtN H H'
  tabs : Tabs T H'
def Fr (H : Hp) (p : Addr) : Prop := ∀ o, H p = some o → ∃ ps, o = .tbl ps
section
variable {T : List (Addr × Str)} {H H1 H2 : Hp}
theorem E2.refl (t : Tabs T H) : E2 T H H := ⟨ExtN.refl H, t⟩
theorem E2.same (a : E2 T H H1) (s : Same H1 H2) : E2 T H H2 := ⟨a.keep.trans (.of s), a.tabs.ext s⟩
theorem E2.new {p : Addr} {o : HO} (a : E2 T H H1) (n : H1 p = none) : E2 T H (upd H1 p o) := a.same (same_new n)
theorem E2.lam (a : E2 T H H1) (e : ExtN H1 H2) (t : Tabs T H2) : E2 T H H2 := ⟨a.keep.trans e, t⟩
theorem E2.free {p : Addr} (a : E2 T H H1) (n : H1 p = none) : Fr H p := fun o e => by
  cases o with
  | tbl ps => exact ⟨ps, rfl⟩
  | _ => exact absurd ((a.keep p _ e (fun ps z => by cases z)).symm.trans n) (by simp)
theorem Tabs.app {p : Addr} {xs ys : List V} (t : Tabs T H1) (e : H1 p = some (.lst xs)) : Tabs T (upd H1 p (.lst ys)) := fun q hq => by
  obtain ⟨ps, h1, h2, h3⟩ := t q hq
  refine ⟨ps, by rw [upd_ne (fun z => by rw [z, e] at h1; cases h1)]; exact h1, h2, fun pos cv hcv => ?_⟩
  obtain ⟨c, e1, e2⟩ := h3 pos cv hcv
  refine ⟨c, e1, ?_⟩
  rw [upd_ne (fun z => by rw [z, e] at e2; cases e2)]
  exact e2
theorem E2.app {p : Addr} {xs ys : List V} (a : E2 T H H1) (f : Fr H p) (e : H1 p = some (.lst xs)) : E2 T H (upd H1 p (.lst ys)) := by
  refine ⟨fun b o h1 h2 => ?_, Tabs.app a.tabs e⟩
  rw [upd_ne (fun z => by
    obtain ⟨ps, hps⟩ := f o (z ▸ h1)
    exact h2 ps hps)]
  exact a.keep b o h1 h2
theorem E2.tups (a : E2 T H H1) : Tups H H1 := fun b xs e => a.keep b _ e fun ps z => by cases z
theorem tups_app {p : Addr} {xs ys : List V} (e : H1 p = some (.lst xs)) : Tups H1 (upd H1 p (.lst ys)) := fun b us eb => by
  rw [upd_ne (fun z => by rw [z, e] at eb; cases eb)]
  exact eb
theorem ExtN_tups (a : ExtN H H1) : Tups H H1 := fun b xs e => a b _ e fun ps z => by cases z
end
theorem tell_ne {d : PyData} (h : d ≠ .none) : tell d = .tuple [.str "told", d] := by
  cases d with
  | none => exact absurd rfl h
  | _ => rfl
theorem td_non {H : Hp} {v : V} {d : PyData} (h : TD H v d) : v = .non ↔ d = .none := by
  cases h <;> simp
def toldD (x : Str) : PyData := .list [tell (optD (readD x)), tell (optB (readB x))]
theorem text_ok {x : Str} (h : TextA 400 5000 x) : LineOk x ∧ TextOk x := by
  have line : ∀ {y : Str}, TextA 400 5000 y → LineOk y := fun {y} hy => ⟨hy.len, fun z hz => Nat.le_trans (hy.word_len hz) (by decide)⟩
  exact ⟨line h, h.len, line h, fun y hy => line (h.lines hy)⟩
section
variable {P : Program} {w : World} {K : PySem.W.Frag} {mg : Str → Option Value} {base : Heap}
def sp_right : Sp := fun vs H Q _ => ∃ x b, vs = [.str x, .bl b] ∧ TextA 400 5000 x ∧ Tabs (T96 K) H ∧ ∀ H', E2 (T96 K) H H' → Q (.bl true) H'
theorem ok_law_is_text_right (Z : Tx K mg base) (TB : TabB base mg (He.cT K ("_law_is_text_right", none)).1 (He.cT K ("_law_is_text_right", none)).2) : OkG P w K mg base 9 "_law_is_text_right" ["it", "by_name"] (sp_right (K := K)) := by
  obtain ⟨fd, F0⟩ := Z.c.def_ 27 (d := d_law_is_text_right) rfl
  have F : FnP K "_law_is_text_right" s_law_is_text_right (He.fAd K ("_law_is_text_right", none)) fd := F0
  refine mkG (N := ["it", "by_name", "told", "due", "deed", "batch", "one"]) (d := ("_law_is_text_right", none)) Z.m__law_is_text_right F sc_law_is_text_right (FunD.bindsN F fun _ _ _ _ _ _ us hl => match us, hl with | [_, _], _ => rfl) (fun vs H Q E h => ?_) (fun A outer s H vs Q hgd hr h => ?_)
  · obtain ⟨x, b, rfl, _⟩ := h
    rfl
  · obtain ⟨x, b, rfl, hx, hT, hQ⟩ := h
    have hu := hr.units
    have hmT : ((He.cT K ("_law_is_text_right", none)).2, (envOfC "_law_is_text_right" (defScope s_law_is_text_right) 0 0 .none).qual ++ "<lambda>") ∈ T96 K := List.mem_cons_self
    have huT : ∀ p ∈ T96 K, p.1 = (He.cT K ("_law_is_text_right", none)).2 → p.2 = (envOfC "_law_is_text_right" (defScope s_law_is_text_right) 0 0 .none).qual ++ "<lambda>" := fun p hp e => by
      rcases List.mem_cons.mp hp with h | h
      · rw [h]
      · rw [List.mem_singleton.mp h] at e
        exact absurd e.symm Z.two
    refine ⟨_, (pss_cons (ps_par (i := 4) (j := 5) (by rfl) sc_law_is_text_right.nd rfl rfl (by decide) rfl rfl (pa_cons (pe_c (ok_law_read Z) hr (by decide) rfl pass0 (pa_cons (pv 0) pa_nil)) (pa_cons (pe_c (ok_law_batch_read Z) hr (by decide) rfl pass0 (pa_cons (pv 0) pa_nil)) pa_nil)) (by rfl))
    (pss_cons (ps_set (i := 2) sc_law_is_text_right.nd rfl (Or.inl rfl) (pe_lst (pa_cons (pe_told (T := T96 K) (k := 5) Z rfl TB rfl hmT huT (hr.mono (by decide)) (lamS_by (sc := defScope s_law_is_text_right) (by decide +kernel)) rfl (fun _ _ _ _ _ => rfl) (fun A outer s H E f c' hr2 => pe_imp (t' := teRead (sp_read_deed (cIT K)) E) (pe_ifExp (pt_val (pv 1)) (pe_ck (ok_read_deed Z) hr2 (by decide) rfl (passes_call (takes_of rfl rfl rfl rfl) (fun _ _ _ _ h => h)) (pk_cons (pv 0) pk_nil)) (pe_c (ok_read_deed Z) hr2 (by decide) rfl (passes_call (takes_of rfl rfl rfl rfl) (fun _ _ _ _ h => h)) (pa_cons (pv 0) pa_nil))) fun σ H Q h => by obtain ⟨x, b, h1, h2, h3⟩ := h; cases b <;> exact teRead_if h1 h2 h3)) pa_nil)))
    (pss_cons (ps_expr (pe_bm PySem.F.plainAttrs_list PySem.F.slot_list_append PySem.F.type_list_append mt_append (pv 2) (pa_cons (pe_told (T := T96 K) (k := 5) Z rfl TB rfl hmT huT (hr.mono (by decide)) (lamS_by (sc := defScope s_law_is_text_right) (by decide +kernel)) rfl (fun _ _ _ _ _ => rfl) (fun A outer s H E f c' hr2 => pe_imp (t' := teRead (sp_read_batch (cIT K)) E) (pe_ifExp (pt_val (pv 1)) (pe_ck (ok_read_batch Z) hr2 (by decide) rfl (passes_call (takes_of rfl rfl rfl rfl) (fun _ _ _ _ h => h)) (pk_cons (pv 0) pk_nil)) (pe_c (ok_read_batch Z) hr2 (by decide) rfl (passes_call (takes_of rfl rfl rfl rfl) (fun _ _ _ _ h => h)) (pa_cons (pv 0) pa_nil))) fun σ H Q h => by obtain ⟨x, b, h1, h2, h3⟩ := h; cases b <;> exact teRead_if h1 h2 h3)) pa_nil)))
    (pss_cons (ps_setLc (i := 3) (own := [("one", 6)]) (g := gName 6) (tt := tYes) rfl sc_law_is_text_right.nd rfl rfl (sw_true rfl rfl rfl (by decide +kernel)) (pi_tup (pe_tup (pa_cons (pv 4) (pa_cons (pv 5) pa_nil)))) (blkOk_by (own := [("one", 6)]) (N := ["it", "by_name", "told", "due", "deed", "batch", "one"]) (sc := defScope s_law_is_text_right) (by decide +kernel)) (fun _ _ _ _ _ => (pg_name (i := 6) sc_law_is_text_right.nd rfl (Or.inl rfl))) (fun _ _ _ _ _ => pts_nil) (fun _ _ _ _ _ => (pe_ifExp (pt_cmp (pc_notN (pv 6)) rfl) (pe_tup (pa_cons pe_str (pa_cons (pv 6) pa_nil))) (pe_tup (pa_cons pe_str (pa_cons pe_bl pa_nil))))))
    (pss_cons (ps_if (pt_cmpR op_ne (pe_callB (call_repr hgd hu) (by rfl) Z.n_repr (by decide +kernel) (pa_cons (pv 2) pa_nil)) (pe_callB (call_repr hgd hu) (by rfl) Z.n_repr (by decide +kernel) (pa_cons (pv 3) pa_nil)) (nomark _)) (pss_one (ps_ret pe_bl)) pss_nil)
    (pss_cons (ps_if (PW.pt (pw_and (pt_cmp (pc_notN (pv 4)) rfl) (pw_and1 (pt_cmpR op_ne (pe_callB (call_repr hgd hu) (by rfl) Z.n_repr (by decide +kernel) (pa_cons (pe_lst (pa_cons (pe_c (ok_show_deed Z) hr (by decide) rfl pass0 (pa_cons (pv 4) pa_nil)) pa_nil)) pa_nil)) (pe_callB (call_repr hgd hu) (by rfl) Z.n_repr (by decide +kernel) (pa_cons (pe_lst (pa_cons (pv 0) pa_nil)) pa_nil)) (nomark _))))) (pss_one (ps_ret pe_bl)) pss_nil)
    (pss_one (ps_ret (pe_or (pe_cmp (pc_isN (pv 5)) rfl) (pe_one (pe_cmpR op_eq (pe_callB (call_repr hgd hu) (by rfl) Z.n_repr (by decide +kernel) (pa_cons (pe_lst (pa_cons (pe_c (ok_show_batch Z) hr (by decide) rfl pass0 (pa_cons (pv 5) pa_nil)) pa_nil)) pa_nil)) (pe_callB (call_repr hgd hu) (by rfl) Z.n_repr (by decide +kernel) (pa_cons (pe_lst (pa_cons (pv 0) pa_nil)) pa_nil)) (nomark _)))))))))))), ?_⟩
    walk_at "rd"
    obtain ⟨ok1, ok2⟩ := text_ok hx
    have hd := readD_law hx
    have hb := readB_law hx
    refine ⟨x, rfl, ok1, fun v1 H1 s1 t1 => ⟨x, rfl, ok2, fun v2 H2 s2 t2 => ⟨hT.ext (s1.trans s2), fun H3 e3 T3 => ?_⟩⟩⟩
    have c3 : E2 (T96 K) H H3 := ((E2.refl hT).same (s1.trans s2)).lam e3 T3
    have t1 := (t1.mono (tupsOf s2)).mono (ExtN_tups e3)
    have t2 := t2.mono (ExtN_tups e3)
    refine told_deed rfl rfl ok1 fun p1 H4 s4 _ t4 => ⟨by decide, fun lt hlt => ?_⟩
    have c4 := c3.same s4
    have fl := c4.free hlt
    have c5 := c4.new hlt (o := .lst [.ref p1])
    have t1 := (t1.mono (tupsOf s4)).mono (tupsOf (same_new (o := .lst [.ref p1]) hlt))
    have t2 := (t2.mono (tupsOf s4)).mono (tupsOf (same_new (o := .lst [.ref p1]) hlt))
    have t4 := t4.mono (tupsOf (same_new (o := .lst [.ref p1]) hlt))
    have l5 : upd H4 lt (.lst [.ref p1]) lt = some (.lst [.ref p1]) := upd_same
    generalize upd H4 lt (.lst [.ref p1]) = H5 at c5 t1 t2 t4 l5
    refine ⟨tyV_list (.of l5), c5.tabs, fun H6 e6 T6 => ?_⟩
    have c6 := c5.lam e6 T6
    have t1 := t1.mono (ExtN_tups e6)
    have t2 := t2.mono (ExtN_tups e6)
    have t4 := t4.mono (ExtN_tups e6)
    have l6 := e6 _ _ l5 (fun ps z => by cases z)
    refine told_batch rfl rfl ok2 fun p2 H7 s7 _ t7 => ?_
    have c7 := c6.same s7
    have l7 := s7 _ _ l6
    have t1 := t1.mono (tupsOf s7)
    have t2 := t2.mono (tupsOf s7)
    have t4 := t4.mono (tupsOf s7)
    refine ⟨lt, _, .ref p2, rfl, rfl, l7, by show 1 < sizeLine; decide, ?_⟩
    have c8 := c7.app (ys := [.ref p1, .ref p2]) fl l7
    have t1 := t1.mono (tups_app (ys := [.ref p1, .ref p2]) l7)
    have t2 := t2.mono (tups_app (ys := [.ref p1, .ref p2]) l7)
    have t4 := t4.mono (tups_app (ys := [.ref p1, .ref p2]) l7)
    have t7 := t7.mono (tups_app (ys := [.ref p1, .ref p2]) l7)
    have l8 : upd H7 lt (.lst [.ref p1, .ref p2]) lt = some (.lst [.ref p1, .ref p2]) := upd_same
    rw [show [V.ref p1] ++ [V.ref p2] = [V.ref p1, V.ref p2] from rfl]
    generalize upd H7 lt (.lst [.ref p1, .ref p2]) = H8 at c8 t1 t2 t4 t7 l8
    have due : toldD x = dueD x := by
      unfold toldD dueD
      rw [hd, hb]
    have R := due_repr hx
    have R1 := text_repr hx
    refine ⟨v1, rfl, v2, rfl, by show 2 ≤ sizeLine; decide, fun q hq => ⟨q, rfl, ⟨_, .of upd_same⟩, fun D hD => ?_⟩⟩
    have c9 := c8.new hq (o := .tup [v1, v2])
    have t12 : TDs (upd H8 q (.tup [v1, v2])) [v1, v2] [optD (lawD x), optB (lawB x)] := .cons (t1.mono (tupsOf (same_new hq))) (.cons (t2.mono (tupsOf (same_new hq))) .nil)
    have t48 : TDs (upd H8 q (.tup [v1, v2])) [.ref p1, .ref p2] [tell (optD (readD x)), tell (optB (readB x))] := .cons (t4.mono (tupsOf (same_new hq))) (.cons (t7.mono (tupsOf (same_new hq))) .nil)
    have l9 := same_new (o := .tup [v1, v2]) hq _ _ l8
    have lq : upd H8 q (.tup [v1, v2]) q = some (.tup [v1, v2]) := upd_same
    generalize upd H8 q (.tup [v1, v2]) = H9 at c9 t12 t48 l9 lq hD
    refine lc_grow (walk_tup (xs := [v1, v2])) hD (show 2 ≤ sizeLine by decide) (fun i acc H' => TDs H' acc (([optD (lawD x), optB (lawB x)].take i).map tell)) .nil (fun _ _ H1 H2 t n s => t.mono fun a xs e => s a _ (fun z => by rw [z] at e; exact n _ e) e) (fun H' s' => .of (s' _ _ lq)) (fun i y H10 H10' acc Kt Kf hi sm _ ea hy ht _ => ?_) (fun acc H10 s10 e10 t10 => ?_)
    · obtain ⟨rfl, hy⟩ := hy
      obtain ⟨dd, hdd, td⟩ := t12.get hy
      have td := td.mono (tupsOf sm)
      refine ⟨rfl, ?_⟩
      have step : ∀ (r : Addr) (o : HO), H10' r = none → TD (upd H10' r o) (.ref r) (tell dd) → Kt (.ref r) (upd H10' r o) := fun r o hr t => ht _ _ (same_new hr) (by
        rw [List.take_add_one, hdd, Option.toList_some, List.map_append]
        exact (ea.mono (tupsOf (same_new hr))).append (.cons t .nil))
      walk_at "rd"
      refine ⟨_, rfl, ?_⟩
      by_cases hn : y = .non
      · rw [if_neg (by rw [hn]; decide)]
        refine ⟨by decide, fun r hr => step r _ hr ?_⟩
        rw [(td_non td).mp hn]
        exact .tup upd_same (.cons (.str _) (.cons (.bl _) .nil))
      · rw [if_pos (by rw [decide_eq_false hn]; rfl)]
        refine ⟨_, rfl, by decide, fun r hr => step r _ hr ?_⟩
        rw [tell_ne (fun z => hn ((td_non td).mpr z))]
        exact .tup upd_same (.cons (.str _) (.cons (td.mono (tupsOf (same_new hr))) .nil))
    · have c10 := c9.same s10
      refine ⟨lt, toldD x, rfl, .lst (.of (s10 _ _ l9)) (TDs.dp (t48.mono (tupsOf s10))), by rw [due]; exact R.sh, by rw [due]; exact R.nd, by rw [due]; exact R.dp, by rw [due]; exact R.ln, ?_⟩
      refine ⟨D, dueD x, rfl, .lst (.of e10) (TDs.dp t10), R.sh, R.nd, R.dp, R.ln, scal_ss, ?_⟩
      rw [due, decide_eq_true rfl, if_neg (by decide)]
      have t1 : TD H10 v1 (optD (lawD x)) := by
        cases t12 with
        | cons a r => exact a.mono (tupsOf s10)
      have t2 : TD H10 v2 (optB (lawB x)) := by
        cases t12 with
        | cons a r => cases r with
          | cons b r => exact b.mono (tupsOf s10)
      have rep : ∀ (y1 : Str) (Hq : Hp) (R : Bool → Hp → Prop), y1 = x → (∀ H', Same Hq H' → R true H') →
          1 ≤ sizeLine ∧ ∀ p, Hq p = none → rRepr K [.ref p] (upd Hq p (.lst [.str y1])) fun z H1 => 1 ≤ sizeLine ∧ ∀ p, H1 p = none → rRepr K [.ref p] (upd H1 p (.lst [.str x])) fun u H2 => scal z u = true ∧ R (decide (z = u)) H2 := by
        rintro y1 Hq R rfl k
        refine ⟨by decide, fun p hp => ⟨p, .list [.str y1], rfl, .lst (.of upd_same) (.cons (.str _) .nil), R1.sh, R1.nd, R1.dp, R1.ln, by decide, fun r hr => ⟨r, .list [.str y1], rfl, .lst (.of upd_same) (.cons (.str _) .nil), R1.sh, R1.nd, R1.dp, R1.ln, scal_ss, ?_⟩⟩⟩
        rw [decide_eq_true rfl]
        exact k _ (sameNew (same_new hp) hr)
      have tail : ∀ H2, Same H10 H2 → if decide (v2 = V.non) = true then Q (V.bl true) H2 else sp_show_batch [v2] H2 (fun x_3 H1 => 1 ≤ sizeLine ∧ ∀ p, H1 p = none → rRepr K [.ref p] (upd H1 p (.lst [x_3])) fun x_4 H1 => 1 ≤ sizeLine ∧ ∀ p, H1 p = none → rRepr K [.ref p] (upd H1 p (.lst [.str x])) fun y H2 => scal x_4 y = true ∧ Q (.bl (decide (x_4 = y))) H2) E0 := by
        intro H2 s2'
        have t2 := t2.mono (tupsOf s2')
        cases e : lawB x with
        | none =>
          rw [e] at t2
          rw [if_pos (decide_eq_true ((td_non t2).mpr rfl))]
          exact hQ _ (c10.same s2')
        | some ds =>
          rw [e] at t2
          obtain ⟨g1, g2, g3⟩ := lawB_show hx e
          rw [if_neg (by rw [decide_eq_true_eq]; exact fun z => by have := (td_non t2).mp z; cases this)]
          exact ⟨v2, ds, rfl, t2, g2, g3, fun H3 s3 => rep _ _ (fun b H2 => Q (.bl b) H2) g1 fun H4 s4 => hQ _ (c10.same ((s2'.trans s3).trans s4))⟩
      cases e : lawD x with
      | none =>
        rw [e] at t1
        rw [if_neg (by rw [decide_eq_true ((td_non t1).mpr rfl)]; decide)]
        exact tail _ (Same.refl _)
      | some dd =>
        rw [e] at t1
        obtain ⟨g1, g2⟩ := lawD_show hx e
        have nn : optD (some dd) ≠ .none := by cases dd <;> exact fun z => by cases z
        rw [if_pos (by rw [decide_eq_false (fun z => nn ((td_non t1).mp z))]; rfl)]
        refine ⟨v1, dd, rfl, t1, g2, fun H3 s3 => ?_⟩
        refine rep _ _ (fun b H2 => if (!b) = true then Q (V.bl false) H2 else if decide (v2 = V.non) = true then Q (V.bl true) H2 else sp_show_batch [v2] H2 (fun x_3 H1 => 1 ≤ sizeLine ∧ ∀ p, H1 p = none → rRepr K [.ref p] (upd H1 p (.lst [x_3])) fun x_4 H1 => 1 ≤ sizeLine ∧ ∀ p, H1 p = none → rRepr K [.ref p] (upd H1 p (.lst [.str x])) fun y H2 => scal x_4 y = true ∧ Q (.bl (decide (x_4 = y))) H2) E0) g1 fun H4 s4 => ?_
        exact tail _ (s3.trans s4)
end
end K96

namespace K96
open PySem PySem.Spec PyProof.Rows L2 G96 TL
/-! what the deck gives is read back -/
theorem some_name {x : Str} (h : x ∈ someNames) : lawName x = true := List.all_eq_true.mp (show someNames.all lawName = true by decide +kernel) x h
theorem num_small {n : Nat} (h : n ≤ 1000000000000) : (numL n).length ≤ 13 := numL_len (by decide) (by omega)
/-- signs without blanks and breaks, at most m -/
def Tight (m : Nat) (w : Str) : Prop := (∀ c ∈ tl w, 33 ≤ c ∧ c < 128) ∧ w.length ≤ m
theorem Tight.mono {m k : Nat} {w : Str} (h : Tight m w) (hk : m ≤ k) : Tight k w := ⟨h.1, Nat.le_trans h.2 hk⟩
theorem tight_name {x : Str} (h : lawName x = true) : Tight 8 x := by
  obtain ⟨_, h2, h3⟩ := lawName_iff.mp h
  exact ⟨fun c hc => by have := h3 c hc; omega, by omega⟩
theorem tight_num {i : Int} {m : Nat} (h : (numL i.natAbs).length ≤ m) : Tight (m + 1) (Str.ofString (toString i)) := by
  have dg : ∀ c ∈ numL i.natAbs, 33 ≤ c ∧ c < 128 := fun c hc => by
    have := numL_digits i.natAbs c hc
    omega
  refine ⟨fun c hc => ?_, ?_⟩
  · rw [tl_int] at hc
    split at hc
    · rcases List.mem_cons.mp hc with rfl | hc
      · omega
      · exact dg c hc
    · exact dg c hc
  · rw [len_tl, tl_int]
    split
    · rw [List.length_cons]
      omega
    · omega
theorem tight_lit {m : Nat} (x : Str) (h : (x.cps.toList.all (fun c => decide (33 ≤ c ∧ c < 128)) && decide (x.length ≤ m)) = true) : Tight m x := by
  rw [Bool.and_eq_true] at h
  exact ⟨fun c hc => of_decide_eq_true (List.all_eq_true.mp h.1 c hc), of_decide_eq_true h.2⟩
theorem tight_val {c : Sc} (h : GoodC c) : Tight 14 (showC c) := by
  cases c with
  | non => exact tight_lit _ (by decide +kernel)
  | int i =>
    have hi : i.natAbs ≤ 1000000000000 := by
      obtain ⟨h1, h2⟩ := h
      omega
    exact tight_num (num_small hi)
  | str z =>
    obtain ⟨t1, t2⟩ := tight_name (some_name h)
    have q : tl (Str.ofString "\"") = [34] := by decide +kernel
    have l1 : (Str.ofString "\"").length = 1 := by decide +kernel
    refine ⟨fun c hc => ?_, ?_⟩
    · have hc : c ∈ tl (Str.ofString "\"" ++ z ++ Str.ofString "\"") := hc
      rw [tl_append, tl_append, q] at hc
      rcases List.mem_append.mp hc with hc | hc
      · rcases List.mem_append.mp hc with hc | hc
        · rw [List.mem_singleton.mp hc]
          omega
        · exact t1 c hc
      · rw [List.mem_singleton.mp hc]
        omega
    · show (Str.ofString "\"" ++ z ++ Str.ofString "\"").length ≤ 14
      rw [app_len, app_len, l1]
      omega
theorem tight_words {d : Deed} (h : GoodD d) : ∀ w ∈ wordsD d, Tight 40 w := fun w hw => by
  cases d with
  | put t vs =>
    simp only [wordsD, List.mem_cons] at hw
    rcases hw with rfl | rfl | hw
    · exact tight_lit _ (by decide +kernel)
    · exact (tight_name (some_name h.1)).mono (by decide)
    · obtain ⟨c, hc, rfl⟩ := List.mem_map.mp hw
      exact (tight_val (h.2.2.2 c hc)).mono (by decide)
  | take t n =>
    simp only [wordsD, List.mem_cons, List.not_mem_nil, or_false] at hw
    rcases hw with rfl | rfl | rfl
    · exact tight_lit _ (by decide +kernel)
    · exact (tight_name (some_name h.1)).mono (by decide)
    · have l : (numL n.natAbs).length ≤ 40 := numL_len (by decide) (by
        have h1 := h.2.1
        have h2 := h.2.2
        omega)
      have nn : ¬ (n < 0) := by
        have h1 := h.2.1
        omega
      refine ⟨(tight_num (m := 40) l).1, ?_⟩
      rw [len_tl, tl_int, if_neg nn]
      exact l
theorem words_sum {d : Deed} (h : GoodD d) : wsum (wordsD d) ≤ 88 := by
  have f3 : (Str.ofString "put").length = 3 := by decide +kernel
  have f4 : (Str.ofString "take").length = 4 := by decide +kernel
  cases d with
  | put t vs =>
    have lt := (tight_name (some_name h.1)).2
    have gen : ∀ us : List Sc, (∀ c ∈ us, GoodC c) → wsum (us.map showC) ≤ 15 * us.length := fun us => by
      induction us with
      | nil => exact fun _ => Nat.le_refl _
      | cons c us ih =>
        intro hu
        have h1 := ih fun x hx => hu x (List.mem_cons_of_mem _ hx)
        have h2 := (tight_val (hu c List.mem_cons_self)).2
        rw [List.map_cons, wsum_cons, List.length_cons]
        omega
    have g := gen vs h.2.2.2
    have l5 := h.2.2.1
    simp only [wordsD, wsum_cons, f3]
    omega
  | take t n =>
    have lt := (tight_name (some_name h.1)).2
    have ln := (tight_words h (Str.ofString (toString n)) (by simp [wordsD])).2
    simp only [wordsD, wsum_cons, f4]
    show _ + (_ + (_ + 0)) ≤ 88
    omega
theorem words_back {d : Deed} (h : GoodD d) : Txt.split (showD d) (Str.ofString " ") = wordsD d := by
  rw [showD_words]
  refine split_join (s := 32) (S := []) tl_blank (by decide +kernel) (by cases d <;> exact List.cons_ne_nil _ _) fun w hw z => ?_
  have := (tight_words h w hw).1 32 z
  omega
theorem val_read {c : Sc} (h : GoodC c) : readV (showC c) = some c := by
  have len := (tight_val h).2
  rw [readV_law (by omega)]
  have key : lawVR (showC c) = (true, c) := by
    cases c with
    | non => exact if_pos rfl
    | int i =>
      have hi : i.natAbs ≤ 1000000000000 := by
        obtain ⟨h1, h2⟩ := h
        omega
      have e : tl (showC (.int i)) = if i < 0 then 45 :: numL i.natAbs else numL i.natAbs := tl_int i
      have l13 := num_small hi
      have dg := numL_digits i.natAbs
      have hd : ∀ c, (tl (showC (.int i))).head? = some c → c = 45 ∨ (48 ≤ c ∧ c ≤ 57) := fun c hc => by
        rw [e] at hc
        split at hc
        · cases hc
          exact .inl rfl
        · cases q : numL i.natAbs with
          | nil => exact absurd q (numL_ne _)
          | cons a r =>
            rw [q] at hc dg
            obtain rfl : a = c := Option.some.inj hc
            exact .inr (dg a List.mem_cons_self)
      have n0 : showC (.int i) ≠ "nothing" := fun z => by
        have q : (tl (showC (.int i))).head? = some 110 := by
          rw [z]
          decide +kernel
        have := hd 110 q
        omega
      have n1 : ¬ (cutS (showC (.int i)) none (some 1) = "\"") := fun z => by
        rw [show ("\"" : Str) = ⟨#[34]⟩ from s_quote] at z
        have := hd 34 (cut_head.mp z)
        omega
      have nat0 : ¬ (i < 0) → CountL (tl (showC (.int i))) := fun z => by rw [e, if_neg z]; exact numL_count _
      have right : lawRight (showC (.int i)) = true := by
        rw [lawRight_iff]
        by_cases z : i < 0
        · rw [if_pos z] at e
          exact .inr ⟨_, e, dg, numL_ne _, numL_head (by omega), by omega⟩
        · exact .inl ⟨nat0 z, by rw [e, if_neg z]; omega⟩
      have val : intV (showC (.int i)) = i := by
        by_cases z : i < 0
        · rw [if_pos z] at e
          rw [intV_neg e dg (numL_ne _) (by omega), numL_val]
          omega
        · rw [intV_count (nat0 z) (by omega), e, if_neg z, numL_val]
          omega
      unfold lawVR
      rw [if_neg n0, if_neg n1]
      show ((lawRight (showC (.int i)) && decide (-1000000000000 ≤ (if lawRight (showC (.int i)) = true then intV (showC (.int i)) else 0) ∧ (if lawRight (showC (.int i)) = true then intV (showC (.int i)) else 0) ≤ 1000000000000)), Sc.int (if lawRight (showC (.int i)) = true then intV (showC (.int i)) else 0)) = (true, Sc.int i)
      rw [right, if_pos rfl, val, decide_eq_true ⟨h.1, h.2⟩]
      rfl
    | str z =>
      have nz := some_name h
      obtain ⟨z1, z2, z3⟩ := lawName_iff.mp nz
      have q : tl (Str.ofString "\"") = [34] := by decide +kernel
      have e : tl (showC (.str z)) = 34 :: (tl z ++ [34]) := by
        show tl (Str.ofString "\"" ++ z ++ Str.ofString "\"") = _
        rw [tl_append, tl_append, q]
        rfl
      have hl : (showC (.str z)).length = z.length + 2 := by
        rw [len_tl, e, List.length_cons, List.length_append, List.length_singleton, ← len_tl]
      have n0 : showC (.str z) ≠ "nothing" := fun y => by
        have q : (tl (showC (.str z))).head? = some 110 := by
          rw [y]
          decide +kernel
        rw [e] at q
        cases q
      have y1 : cutS (showC (.str z)) none (some 1) = "\"" := by
        rw [show ("\"" : Str) = ⟨#[34]⟩ from s_quote]
        exact cut_head.mpr (by rw [e]; rfl)
      have last : (showC (.str z)).cps.toList.getLastD 0 = 34 := by
        have e' : (showC (.str z)).cps.toList = (34 :: tl z) ++ [34] := e
        rw [e', List.getLastD_concat]
      have inner : cutS (showC (.str z)) (some 1) (some (-1)) = z := by
        have r := quoted (x := showC (.str z)) (by rw [e]; rfl) last (by omega)
        refine ext_tl ?_
        have r2 := congrArg tl r
        rw [tl_append, tl_append, q, e] at r2
        have r3 : 34 :: (tl (cutS (showC (.str z)) (some 1) (some (-1))) ++ [34]) = 34 :: (tl z ++ [34]) := r2
        exact List.append_cancel_right (List.cons.inj r3).2
      unfold lawVR
      rw [if_neg n0, if_pos y1, inner, last, nz, decide_eq_true (show 2 < (showC (.str z)).length by omega), decide_eq_true (show (⟨#[34]⟩ : Str) = "\"" from s_quote.symm)]
      rfl
  rw [key]
  rfl
theorem readD_showD {d : Deed} (h : GoodD d) : readD (showD d) = some d := by
  have wb := words_back h
  unfold readD
  show (if 2 < (Txt.split (showD d) (Str.ofString " ")).length ∧ nameS (wordAt (Txt.split (showD d) (Str.ofString " ")) 1) = true then (if wordAt (Txt.split (showD d) (Str.ofString " ")) 0 = "put" then (mapO readV ((Txt.split (showD d) (Str.ofString " ")).drop 2)).map (Deed.put (wordAt (Txt.split (showD d) (Str.ofString " ")) 1)) else if wordAt (Txt.split (showD d) (Str.ofString " ")) 0 = "take" ∧ (Txt.split (showD d) (Str.ofString " ")).length = 3 ∧ countS (wordAt (Txt.split (showD d) (Str.ofString " ")) 2) = true then some (.take (wordAt (Txt.split (showD d) (Str.ofString " ")) 1) (intV (wordAt (Txt.split (showD d) (Str.ofString " ")) 2))) else none) else none) = some d
  rw [wb]
  have pt : ¬ (Str.ofString "take" = Str.ofString "put") := by decide +kernel
  cases d with
  | put t vs =>
    have hn : nameS t = true := by rw [name_eq]; exact some_name h.1
    have h0 := h.2.1
    have c1 : 2 < (wordsD (.put t vs)).length ∧ nameS (wordAt (wordsD (.put t vs)) 1) = true := by
      refine ⟨?_, hn⟩
      show 2 < (vs.map showC).length + 1 + 1
      rw [List.length_map]
      omega
    rw [if_pos c1, if_pos (show wordAt (wordsD (.put t vs)) 0 = "put" from rfl)]
    show (mapO readV (vs.map showC)).map (Deed.put t) = _
    rw [mapO_all fun c hc => val_read (h.2.2.2 c hc)]
    rfl
  | take t n =>
    have hn : nameS t = true := by rw [name_eq]; exact some_name h.1
    have nn : ¬ (n < 0) := by
      have := h.2.1
      omega
    have cl : CountL (tl (Str.ofString (toString n))) := by
      rw [tl_int, if_neg nn]
      exact numL_count _
    have len := (tight_words h (Str.ofString (toString n)) (by simp [wordsD])).2
    have val : intV (Str.ofString (toString n)) = n := by
      rw [intV_count cl (by omega), tl_int, if_neg nn, numL_val]
      omega
    rw [if_pos (show 2 < (wordsD (.take t n)).length ∧ nameS (wordAt (wordsD (.take t n)) 1) = true from ⟨by show 2 < 3; decide, hn⟩), if_neg (show ¬ (wordAt (wordsD (.take t n)) 0 = "put") from pt)]
    rw [if_pos (show wordAt (wordsD (.take t n)) 0 = "take" ∧ (wordsD (.take t n)).length = 3 ∧ countS (wordAt (wordsD (.take t n)) 2) = true from ⟨rfl, rfl, count_iff.mpr cl⟩)]
    show some (Deed.take t (intV (Str.ofString (toString n)))) = _
    rw [val]
theorem text_words {d : Deed} (h : GoodD d) : ∀ w ∈ wordsD d, WOk 40 w := fun w hw => by
  have t := tight_words h w hw
  exact ⟨fun c hc => (t.1 c hc).2, Rn.short (by rw [← len_tl]; exact t.2)⟩
theorem text_line {d : Deed} (h : GoodD d) : TextA 40 88 (showD d) := by
  rw [showD_words]
  exact text_join _ tl_blank rfl (text_words h) (words_sum h)
theorem text_showD {d : Deed} (h : GoodD d) : TextA 45 540 (showD d) := (text_line h).mono (by decide) (by decide)
/-! the batch's text -/
theorem first_word {w t r : List Nat} (hw : w.length ≤ 4) (h : r <+: w ++ 32 :: t) (nr : ∀ c ∈ r, c ≠ 32) : r.length ≤ 4 := by
  by_cases hl : r.length ≤ w.length
  · omega
  · obtain ⟨q, e⟩ := h
    have h1 : (w ++ 32 :: t)[w.length]? = some 32 := by
      rw [List.getElem?_append_right (Nat.le_refl _), Nat.sub_self]
      rfl
    rw [← e, List.getElem?_append_left (by omega)] at h1
    exact absurd rfl (nr 32 (List.mem_of_getElem? h1))
theorem lines_run : ∀ {ls : List (List Nat)}, (∀ l ∈ ls, Rn 40 l ∧ ∃ w t, l = w ++ 32 :: t ∧ w.length ≤ 4) → Rn 45 (joinL [10] ls) ∧ (ls ≠ [] → ∃ w t, joinL [10] ls = w ++ 32 :: t ∧ w.length ≤ 4)
  | [], _ => ⟨Rn.short (Nat.zero_le _), fun z => absurd rfl z⟩
  | [l], h => by
    obtain ⟨h1, h2⟩ := h l List.mem_cons_self
    exact ⟨h1.mono (by decide), fun _ => h2⟩
  | l :: m :: r, h => by
    obtain ⟨h1, w, t, e, hw⟩ := h l List.mem_cons_self
    obtain ⟨i1, i2⟩ := lines_run (ls := m :: r) fun x hx => h x (List.mem_cons_of_mem _ hx)
    obtain ⟨w2, t2, e2, hw2⟩ := i2 (List.cons_ne_nil _ _)
    have ej : joinL [10] (l :: m :: r) = l ++ (10 :: joinL [10] (m :: r)) := rfl
    rw [ej]
    refine ⟨fun q hq nq => ?_, fun _ => ⟨w, t ++ 10 :: joinL [10] (m :: r), by rw [e, List.append_assoc]; rfl, hw⟩⟩
    have pre5 : ∀ b, b <+: 10 :: joinL [10] (m :: r) → (∀ c ∈ b, c ≠ 32) → b.length ≤ 5 := fun b hb nb => by
      cases b with
      | nil => exact Nat.zero_le _
      | cons c b =>
        obtain ⟨z, ez⟩ := hb
        have ez2 : b ++ z = joinL [10] (m :: r) := (List.cons.inj ez).2
        have := first_word (r := b) hw2 ⟨z, by rw [ez2, e2]⟩ fun x hx => nb x (List.mem_cons_of_mem _ hx)
        rw [List.length_cons]
        omega
    rcases infix_append_cases hq with h | h | ⟨a, b, rfl, ha, hb⟩
    · exact Nat.le_trans (h1 q h nq) (by decide)
    · rcases List.infix_cons_iff.mp h with h | h
      · exact Nat.le_trans (pre5 q h nq) (by decide)
      · exact i1 q h nq
    · have g1 := h1 a ha.isInfix fun c hc => nq c (List.mem_append_left _ hc)
      have g2 := pre5 b hb fun c hc => nq c (List.mem_append_right _ hc)
      rw [List.length_append]
      omega
theorem line_shape {d : Deed} : ∃ w t, tl (showD d) = w ++ 32 :: t ∧ w.length ≤ 4 := by
  have f3 : (tl (Str.ofString "put")).length = 3 := by decide +kernel
  have f4 : (tl (Str.ofString "take")).length = 4 := by decide +kernel
  rw [showD_words, join_eq, tl_join, tl_blank]
  cases d with
  | put t vs => exact ⟨tl (Str.ofString "put"), joinL [32] (tl t :: (vs.map showC).map tl), rfl, by omega⟩
  | take t n => exact ⟨tl (Str.ofString "take"), joinL [32] [tl t, tl (Str.ofString (toString n))], rfl, by omega⟩
theorem lines_sum : ∀ {ds : List Deed}, (∀ d ∈ ds, GoodD d) → wsum (ds.map showD) ≤ 89 * ds.length
  | [], _ => Nat.le_refl _
  | d :: ds, h => by
    have h1 := lines_sum fun x hx => h x (List.mem_cons_of_mem d hx)
    have h2 := (text_line (h d List.mem_cons_self)).len
    rw [List.map_cons, wsum_cons, List.length_cons]
    omega
theorem text_showB {ds : List Deed} (h : ∀ d ∈ ds, GoodD d) (hl : ds.length ≤ 6) : TextA 45 540 (showB ds) := by
  have e : tl (showB ds) = joinL [10] ((ds.map showD).map tl) := by
    show tl (Txt.join (Str.ofString "\n") (ds.map showD)) = _
    rw [join_eq, tl_join, tl_break]
  refine ⟨fun c hc => ?_, ?_, ?_⟩
  · rw [e] at hc
    rcases join_subset 10 _ c hc with h1 | ⟨p, h1, h2⟩
    · omega
    · obtain ⟨y, hy, rfl⟩ := List.mem_map.mp h1
      obtain ⟨d, hd, rfl⟩ := List.mem_map.mp hy
      exact (text_line (h d hd)).plain c h2
  · have s := lines_sum h
    have q := joinL_len 10 ((ds.map showD).map tl)
    rw [len_tl, e]
    have w : (((ds.map showD).map tl).map fun p => p.length + 1).sum = wsum (ds.map showD) := by
      rw [List.map_map]
      rfl
    omega
  · rw [e]
    refine (lines_run fun l hl => ?_).1
    obtain ⟨y, hy, rfl⟩ := List.mem_map.mp hl
    obtain ⟨d, hd, rfl⟩ := List.mem_map.mp hy
    exact ⟨(text_line (h d hd)).run, line_shape⟩
theorem no_break {d : Deed} (h : GoodD d) : 10 ∉ tl (showD d) := fun z => by
  rw [showD_words, join_eq, tl_join, tl_blank] at z
  rcases join_subset 32 _ 10 z with h1 | ⟨p, h1, h2⟩
  · cases h1
  · obtain ⟨w, hw, rfl⟩ := List.mem_map.mp h1
    have := (tight_words h w hw).1 10 h2
    omega
theorem readB_showB {ds : List Deed} (h : ∀ d ∈ ds, GoodD d) : readB (showB ds) = some ds := by
  unfold readB
  cases hds : ds with
  | nil => exact if_pos rfl
  | cons d0 dr =>
    rw [← hds]
    have ne : ds.map showD ≠ [] := by rw [hds]; exact List.cons_ne_nil _ _
    have back : Txt.split (showB ds) (Str.ofString "\n") = ds.map showD := by
      refine split_join (s := 10) (S := []) tl_break (by decide +kernel) ne fun y hy => ?_
      obtain ⟨d, hd, rfl⟩ := List.mem_map.mp hy
      exact no_break (h d hd)
    have n0 : showB ds ≠ "" := fun z => by
      obtain ⟨w, t, e, _⟩ := line_shape (d := d0)
      have e2 : tl (showB ds) = joinL [10] ((ds.map showD).map tl) := by
        show tl (Txt.join (Str.ofString "\n") (ds.map showD)) = _
        rw [join_eq, tl_join, tl_break]
      have hm : 32 ∈ tl (showB ds) := by
        rw [e2, hds]
        have m0 : 32 ∈ tl (showD d0) := by rw [e]; simp
        cases dr with
        | nil => exact m0
        | cons d1 dr => exact List.mem_append_left _ m0
      rw [eq_empty.mp z] at hm
      cases hm
    rw [if_neg n0]
    show mapO readD (Txt.split (showB ds) (Str.ofString "\n")) = _
    rw [back]
    exact mapO_all fun d hd => readD_showD (h d hd)
theorem GoodD.plain {d : Deed} (h : GoodD d) : Plain d := by
  cases d with
  | put t vs => exact ⟨plain_name (some_name h.1), fun z hz => plain_name (some_name (h.2.2.2 _ hz))⟩
  | take t n => exact plain_name (some_name h.1)
theorem repr_deed {d : Deed} (h : GoodD d) : ReprOk (.list [.str (showD d), .str (showD d), Deed.d d]) := by
  have t := text_line h
  refine (Sf.lst (k := 2) fun z hz => ?_).repr (by decide) ?_
  · simp only [List.mem_cons, List.not_mem_nil, or_false] at hz
    rcases hz with rfl | rfl | rfl
    · exact (Sf.str t.plain).mono (by decide)
    · exact (Sf.str t.plain).mono (by decide)
    · exact deed_sf h.ok h.plain
  · have b := bulk_deed d
    have l := t.len
    have e : (showD d).cps.size = (showD d).length := rfl
    simp only [PyData.bulk, PyData.bulkAll, e]
    omega
theorem repr_batch {ds : List Deed} (h : ∀ d ∈ ds, GoodD d) (hl : ds.length ≤ 6) : ReprOk (.list [.str (showB ds), .str (showB ds), bdata ds]) := by
  have t := text_showB h hl
  refine (Sf.lst (k := 3) fun z hz => ?_).repr (by decide) ?_
  · simp only [List.mem_cons, List.not_mem_nil, or_false] at hz
    rcases hz with rfl | rfl | rfl
    · exact (Sf.str t.plain).mono (by decide)
    · exact (Sf.str t.plain).mono (by decide)
    · refine Sf.tup (k := 2) fun z hz => ?_
      obtain ⟨d, hd, rfl⟩ := List.mem_map.mp hz
      exact deed_sf (h d hd).ok (h d hd).plain
  · have b := bulk_batch ds
    have s := lines_sum h
    have l := t.len
    have e : (showB ds).cps.size = (showB ds).length := rfl
    simp only [bdata, PyData.bulk, PyData.bulkAll, e]
    omega
theorem size_batch {ds : List Deed} (h : ∀ d ∈ ds, GoodD d) (hl : ds.length ≤ 6) : ((ds.map showD).map (·.length)).sum + ds.length ≤ 100000 := by
  have s := lines_sum h
  have q := wsum_sum (ds.map showD)
  rw [List.length_map] at q
  omega
end K96

namespace K96
open PySem PySem.Spec PyProof.Rows L2 G96 TL
local macro_rules | `(tactic| walk_at "rd") => `(tactic| simp only [tSeq, tIfS, tOr, tAnd, tNot, tB, tCB, tCons, tNil, tVar, tC, tTest, tChain, rI0, tRet, tOp, tCall, tAsg, gName, tNext, tDrop, tIf, tAndV, tOrV, tNotV, tIsN, tNotN, tM0, tM1, tSl, tPart, tNoPart, rSlS, rEq, rNe, scal_ss, scal_ii, scal_bb, LenV_s, rIsStr, isStr_s, isStr_n, isStr_b, isStr_i, rInt1, tTup, tLst, tFmt, tUn, L2.start, List.map_cons, List.map_nil, List.length_cons, List.length_nil, List.replicate_succ, List.replicate_zero, List.cons_append, List.nil_append, List.append_nil, Nat.reduceAdd, Nat.reduceSub, Nat.sub_self, List.getElem?_cons_zero, List.getElem?_cons_succ, List.set_cons_zero, List.set_cons_succ, Option.some.injEq, exists_eq_left', exists_eq_left, and_assoc, exists_and_left, exists_eq', List.cons.injEq, true_and, and_true, V.int.injEq, V.str.injEq, V.bl.injEq, V.ref.injEq, reduceCtorEq, false_and, and_false, exists_false, or_false, false_or, if_true, if_false, Bool.not_true, Bool.not_false, Bool.false_eq_true, ite_true, ite_false, decide_true, decide_false, eq_self, tJs, rU, gTup, gNil, gCons, StX.tStar, cx_K, must_t, must_f, rNewStrs, LamX.tLam, rI, tPar, tDGet, sDPut, tBM, tBM0, tDisp, tPairs, tPar3, tRevL, rI])
open LamX
section
variable {T : List (Addr × Str)}
theorem Tabs_two {H H1 : Hp} {p l : Addr} {N : Nat} (t : Tabs T H) (d : DeckB H p l N) (s : Same2 p l H H1) : Tabs T H1 := fun q hq => by
  obtain ⟨ps, h1, h2, h3⟩ := t q hq
  obtain ⟨c, u, m, e1, e2, _⟩ := d
  have np : ∀ {b : Addr} {o : HO}, H b = some o → (∀ kv, o ≠ .dK kv) → b ≠ p := fun e n z => n _ (Option.some.inj (e.symm.trans (z ▸ e1)))
  have nl : ∀ {b : Addr} {o : HO}, H b = some o → (∀ xs, o ≠ .lst xs) → b ≠ l := fun e n z => n _ (Option.some.inj (e.symm.trans (z ▸ e2)))
  refine ⟨ps, s _ _ (np h1 fun _ z => by cases z) (nl h1 fun _ z => by cases z) h1, h2, fun pos cv hcv => ?_⟩
  obtain ⟨c, e1, e2⟩ := h3 pos cv hcv
  exact ⟨c, e1, s _ _ (np e2 fun _ z => by cases z) (nl e2 fun _ z => by cases z) e2⟩
/-- where the law stands: the deck, the tables, the batch, its lines -/
structure LS (T : List (Addr × Str)) (p l : Addr) (N : Nat) (v : V) (ds : List Deed) (ln : Addr) (ls : List Str) (H : Hp) : Prop where
  deck : DeckB H p l N
  tabs : Tabs T H
  bat : TD H v (bdata ds)
  lin : H ln = some (.lst (ls.map V.str))
  np : ln ≠ p
  nl : ln ≠ l
section
variable {p l ln : Addr} {N M : Nat} {v : V} {ds : List Deed} {ls : List Str} {H H1 : Hp}
theorem LS.stp (a : LS T p l N v ds ln ls H) (s : Stp p l M H H1) : LS T p l M v ds ln ls H1 :=
  ⟨s.deck, Tabs_two a.tabs a.deck s.keep, a.bat.mono (tups2 a.deck s.keep), s.keep _ _ a.np a.nl a.lin, a.np, a.nl⟩
theorem LS.same (a : LS T p l N v ds ln ls H) (s : Same H H1) : LS T p l N v ds ln ls H1 := a.stp (Stp.ofSame a.deck s)
theorem LS.mono (a : LS T p l N v ds ln ls H) (h : N ≤ M) : LS T p l M v ds ln ls H := ⟨a.deck.mono h, a.tabs, a.bat, a.lin, a.np, a.nl⟩
theorem DeckB.ext {H H1 : Hp} {p l : Addr} {N : Nat} (d : DeckB H p l N) (e : ExtN H H1) : DeckB H1 p l N := by
  obtain ⟨c, t, n, h1, h2, h3, h4⟩ := d
  exact ⟨c, t, n, e _ _ h1 (fun _ z => by cases z), e _ _ h2 (fun _ z => by cases z), h3, h4⟩
theorem LS.ext (a : LS T p l N v ds ln ls H) (e : ExtN H H1) (t : Tabs T H1) : LS T p l N v ds ln ls H1 :=
  ⟨DeckB.ext a.deck e, t, a.bat.mono (ExtN_tups e), e _ _ a.lin (fun _ z => by cases z), a.np, a.nl⟩
theorem LS.app {q : Addr} {xs ys : List V} (a : LS T p l N v ds ln ls H) (e : H q = some (.lst xs)) (n1 : q ≠ l) (n2 : q ≠ ln) : LS T p l N v ds ln ls (upd H q (.lst ys)) := by
  obtain ⟨c, t, n, h1, h2, h3, h4⟩ := a.deck
  have n3 : q ≠ p := fun z => by rw [z, h1] at e; cases e
  exact ⟨⟨c, t, n, by rw [upd_ne n3.symm]; exact h1, by rw [upd_ne n1.symm]; exact h2, h3, h4⟩, Tabs.app a.tabs e, a.bat.mono (tups_app e), by rw [upd_ne n2.symm]; exact a.lin, a.np, a.nl⟩
end
end
/-- lists stay lists, tuples tuples, dicts dicts -/
def KP (H H' : Hp) : Prop := ∀ b, (∀ xs, H b = some (.lst xs) → ∃ ys, H' b = some (.lst ys)) ∧ (∀ xs, H b = some (.tup xs) → ∃ ys, H' b = some (.tup ys)) ∧ (∀ kv, H b = some (.dK kv) → ∃ kv', H' b = some (.dK kv'))
theorem KP.ext {H H' : Hp} (e : ExtN H H') : KP H H' := fun b => ⟨fun _ h => ⟨_, e _ _ h (fun _ z => by cases z)⟩, fun _ h => ⟨_, e _ _ h (fun _ z => by cases z)⟩, fun _ h => ⟨_, e _ _ h (fun _ z => by cases z)⟩⟩
theorem KP.same {H H' : Hp} (s : Same H H') : KP H H' := KP.ext (.of s)
theorem KP.stp {H H' : Hp} {p l : Addr} {N M : Nat} (d : DeckB H p l N) (s : Stp p l M H H') : KP H H' := fun b => by
  obtain ⟨c, t, n, h1, h2, _⟩ := d
  obtain ⟨c', t', n', h1', h2', _⟩ := s.deck
  by_cases hp : b = p
  · subst hp
    refine ⟨fun xs h => ?_, fun xs h => ?_, fun kv h => ⟨_, h1'⟩⟩ <;> rw [h1] at h <;> cases h
  · by_cases hl : b = l
    · subst hl
      refine ⟨fun xs h => ⟨_, h2'⟩, fun xs h => ?_, fun kv h => ?_⟩ <;> rw [h2] at h <;> cases h
    · exact ⟨fun xs h => ⟨_, s.keep _ _ hp hl h⟩, fun xs h => ⟨_, s.keep _ _ hp hl h⟩, fun xs h => ⟨_, s.keep _ _ hp hl h⟩⟩
theorem KP.nt {H H' : Hp} {v : V} (k : KP H H') (h : NoText H v) : NoText H' v := by
  cases v with
  | ref a =>
    obtain ⟨⟨xs, e⟩ | ⟨xs, e⟩ | ⟨kv, e⟩, _⟩ := h
    · exact ⟨.inl ((k a).1 _ e), rfl⟩
    · exact ⟨.inr (.inl ((k a).2.1 _ e)), rfl⟩
    · exact ⟨.inr (.inr ((k a).2.2 _ e)), rfl⟩
  | _ => exact h
theorem told_nt {C : Addr} {H : Hp} {Q : VK} {v : V} (h : NoText H v) (hQ : ∀ p, H p = none → Q (.ref p) (upd H p (.tup [.str "invalid", .bl true]))) : TTold2 C (fun E H' Q' => sp_read_deed C [v] H' Q' E) H Q :=
  ⟨v, rfl, .inr ⟨h, rfl, rfl, hQ⟩⟩
theorem told_ntB {C : Addr} {H : Hp} {Q : VK} {v : V} (h : NoText H v) (hQ : ∀ p, H p = none → Q (.ref p) (upd H p (.tup [.str "invalid", .bl true]))) : TTold2 C (fun E H' Q' => sp_read_batch C [v] H' Q' E) H Q :=
  ⟨v, rfl, .inr ⟨h, rfl, rfl, hQ⟩⟩
def invD : PyData := .list [.tuple [.str "invalid", .bool true], .tuple [.str "invalid", .bool true]]
theorem inv_repr : ReprOk invD := ⟨by decide +kernel, by decide +kernel, by decide +kernel, by decide +kernel⟩
theorem cat_stepN {H : Hp} {a b : Addr} {ws us : List Str} {Q : VK} (ha : H a = some (.lst (ws.map V.str))) (hb : H b = some (.lst (us.map V.str))) (hl : ws.length + us.length ≤ 100000) (k : ∀ p H', H p = none → Same H H' → H' p = some (.lst ((ws ++ us).map V.str)) → Q (.ref p) H') : rCat (.ref a) (.ref b) H Q := by
  have z : (100000 : Nat) ≤ sizeLine := by decide
  refine ⟨a, b, _, _, rfl, rfl, ha, hb, ?_, fun p hp => k p _ hp (same_new hp) ?_⟩
  · rw [List.length_map, List.length_map]
    omega
  · rw [upd_same, List.map_append]
def wOf : Nat → Nat
  | 0 => 45
  | j + 1 => 2 * wOf j + 1
def lOf : Nat → Nat
  | 0 => 540
  | j + 1 => 2 * lOf j + 30
theorem of_le : ∀ j, j ≤ 3 → 20 ≤ wOf j ∧ wOf j ≤ 400 ∧ 20 ≤ lOf j ∧ lOf j ≤ 5000
  | 0, _ => by decide
  | 1, _ => by decide
  | 2, _ => by decide
  | 3, _ => by decide
  | n + 4, h => by omega
theorem hand_text {t : Str} (h : t ∈ handTexts) : TextA 400 5000 t := by
  have q := List.all_eq_true.mp hand_ok t h
  rw [Bool.and_eq_true] at q
  have l := of_decide_eq_true q.1
  exact TextA.short (fun c hc => of_decide_eq_true (List.all_eq_true.mp q.2 c hc)) (by omega) (by omega)
section
variable {P : Program} {w : World} {K : PySem.W.Frag} {mg : Str → Option Value} {base : Heap}
def sp_law : Sp := fun vs H Q _ => ∃ a, ∃ ns : List Int, vs = [.ref a] ∧ SqL K H a (ns.map V.int) ∧ Tabs (T96 K) H ∧ ∀ H', Q (.bl true) H'
theorem ok_law (Z : Tx K mg base) (tbR : TabB base mg (He.cT K ("_law_is_text_right", none)).1 (He.cT K ("_law_is_text_right", none)).2) (TB : TabB base mg (He.cT K ("law", none)).1 (He.cT K ("law", none)).2) : OkG P w K mg base 11 "law" ["script"] (sp_law (K := K)) := by
  obtain ⟨fd, F0⟩ := Z.c.def_ 28 (d := d_law) rfl
  have F : FnP K "law" s_law (He.fAd K ("law", none)) fd := F0
  refine mkG (N := ["script", "deck", "batch", "lines", "turn", "some", "thing", "told", "text", "deed", "line", "bent", "again", "at", "it", "go"]) (d := ("law", none)) Z.m_law F sc_law (FunD.bindsN F fun _ _ _ _ _ _ us hl => match us, hl with | [_], _ => rfl) (fun vs H Q E h => ?_) (fun A outer s H vs Q hgd hr h => ?_)
  · obtain ⟨a, ns, rfl, _⟩ := h
    rfl
  · obtain ⟨a, ns, rfl, ha, hT, hQ⟩ := h
    have hu := hr.units
    have hmT : ((He.cT K ("law", none)).2, (envOfC "law" (defScope s_law) 0 0 .none).qual ++ "<lambda>") ∈ T96 K := List.mem_cons_of_mem _ List.mem_cons_self
    have huT : ∀ p ∈ T96 K, p.1 = (He.cT K ("law", none)).2 → p.2 = (envOfC "law" (defScope s_law) 0 0 .none).qual ++ "<lambda>" := fun p hp e => by
      rcases List.mem_cons.mp hp with h | h
      · rw [h] at e
        exact absurd e Z.two
      · rw [List.mem_singleton.mp h]
    refine ⟨_, (pss_cons (ps_set (i := 1) sc_law.nd rfl (Or.inr rfl) (pe_c (ok_law_deck Z) hr (by decide) rfl pass0 (pa_cons (pv 0) pa_nil)))
    (pss_cons (ps_set (i := 2) sc_law.nd rfl (Or.inl rfl) (pe_callTy call_tuple_of (by rfl) Z.n_tuple (by decide +kernel) (pa_cons (pe_lc (own := [("go", 15)]) (g := gName 15) (tt := tYes) rfl sc_law.nd (pi_range1 rfl Z.n_range (pa_cons (pe_c (ok_law_pick Z) hr (by decide) rfl pass0 (pa_cons (pv 1) (pa_cons (pe_lst (pa_cons pe_int (pa_cons pe_int (pa_cons pe_int (pa_cons pe_int (pa_cons pe_int (pa_cons pe_int pa_nil))))))) pa_nil))) pa_nil)) (blkOk_by (own := [("go", 15)]) (N := ["script", "deck", "batch", "lines", "turn", "some", "thing", "told", "text", "deed", "line", "bent", "again", "at", "it", "go"]) (sc := defScope s_law) (by decide +kernel)) (fun _ _ _ _ _ => (pg_name (i := 15) sc_law.nd rfl (Or.inl rfl))) (fun _ _ _ _ _ => pts_nil) (fun _ _ _ _ _ => (pe_c (ok_law_deed Z) hr (by decide) rfl pass0 (pa_cons (pv 1) pa_nil)))) pa_nil)))
    (pss_cons (ps_setLc (i := 3) (own := [("deed", 9)]) (g := gName 9) (tt := tYes) rfl sc_law.nd rfl rfl (sw_true rfl rfl rfl (by decide +kernel)) (pi_tup (pv 2)) (blkOk_by (own := [("deed", 9)]) (N := ["script", "deck", "batch", "lines", "turn", "some", "thing", "told", "text", "deed", "line", "bent", "again", "at", "it", "go"]) (sc := defScope s_law) (by decide +kernel)) (fun _ _ _ _ _ => (pg_name (i := 9) sc_law.nd rfl (Or.inl rfl))) (fun _ _ _ _ _ => pts_nil) (fun _ _ _ _ _ => (pe_c (ok_law_text Z) hr (by decide) rfl pass0 (pa_cons (pv 9) pa_nil))))
    (pss_cons (ps_par (i := 8) (j := 5) (by rfl) sc_law.nd rfl rfl (by decide) rfl rfl (pa_cons (pe_m1 PySem.F.slot_str_join PySem.F.type_str_join mt_joinF pe_str (pv 3)) (pa_cons (pe_op op_cat (pv 3) (pe_c0 (ok_law_by_hand Z) hr (by decide) rfl pass0)) pa_nil)) (by rfl))
    (pss_cons (ps_if (pt_cmpR op_ne (pe_callB (call_repr hgd hu) (by rfl) Z.n_repr (by decide +kernel) (pa_cons (pe_lst (pa_cons (pe_c (ok_show_batch Z) hr (by decide) rfl pass0 (pa_cons (pv 2) pa_nil)) (pa_cons (pe_ck (ok_show_batch Z) hr (by decide) rfl pass0 (pk_cons (pv 2) pk_nil)) (pa_cons (pe_c (ok_read_batch Z) hr (by decide) rfl (passes_call LamX.takes0 (fun _ _ _ _ h => h)) (pa_cons (pv 8) pa_nil)) pa_nil)))) pa_nil)) (pe_callB (call_repr hgd hu) (by rfl) Z.n_repr (by decide +kernel) (pa_cons (pe_lst (pa_cons (pv 8) (pa_cons (pv 8) (pa_cons (pv 2) pa_nil)))) pa_nil)) (nomark _)) (pss_one (ps_ret pe_bl)) pss_nil)
    (C8.pss_cut (ps_for PassesOwn.never rfl (pi_zipM (by rfl) Z.n_zip (pa_cons (pv 2) (pa_cons (pv 3) pa_nil))) (pg_tup (by rfl) (pgs_cons (pg_name (i := 9) sc_law.nd rfl (Or.inl rfl)) (pgs_cons (pg_name (i := 10) sc_law.nd rfl (Or.inl rfl)) pgs_nil)))
      (pss_one (ps_if (pt_cmpR op_ne (pe_callB (call_repr hgd hu) (by rfl) Z.n_repr (by decide +kernel) (pa_cons (pe_lst (pa_cons (pe_c (ok_show_deed Z) hr (by decide) rfl pass0 (pa_cons (pv 9) pa_nil)) (pa_cons (pe_ck (ok_show_deed Z) hr (by decide) rfl pass0 (pk_cons (pv 9) pk_nil)) (pa_cons (pe_c (ok_read_deed Z) hr (by decide) rfl (passes_call LamX.takes0 (fun _ _ _ _ h => h)) (pa_cons (pv 10) pa_nil)) pa_nil)))) pa_nil)) (pe_callB (call_repr hgd hu) (by rfl) Z.n_repr (by decide +kernel) (pa_cons (pe_lst (pa_cons (pv 10) (pa_cons (pv 10) (pa_cons (pv 9) pa_nil)))) pa_nil)) (nomark _)) (pss_one (ps_ret pe_bl)) pss_nil)))
    (C8.pss_cut (ps_for PassesOwn.never rfl (pi_range1 rfl Z.n_range (pa_cons pe_int pa_nil)) (pg_name (i := 4) sc_law.nd rfl (Or.inl rfl))
      (pss_cons (ps_set (i := 11) sc_law.nd rfl (Or.inl rfl) (pe_c (ok_law_pick Z) hr (by decide) rfl pass0 (pa_cons (pv 1) (pa_cons (pe_op op_cat (pv 3) (pe_lst (pa_cons (pv 8) pa_nil))) pa_nil))))
    (C8.pss_cut (ps_for PassesOwn.never rfl (pi_range1 rfl Z.n_range (pa_cons (pe_op op_add pe_int (pe_c (ok_law_draw Z) hr (by decide) rfl pass0 (pa_cons (pv 1) (pa_cons pe_int pa_nil)))) pa_nil)) (pg_name (i := 12) sc_law.nd rfl (Or.inl rfl))
      (pss_one (ps_set (i := 11) sc_law.nd rfl (Or.inl rfl) (pe_c (ok_law_bent Z) hr (by decide) rfl pass0 (pa_cons (pv 1) (pa_cons (pv 11) pa_nil))))))
    (pss_one (ps_expr (pe_bm PySem.F.plainAttrs_list PySem.F.slot_list_append PySem.F.type_list_append mt_append (pv 5) (pa_cons (pv 11) pa_nil)))))))
    (C8.pss_cut (ps_for PassesOwn.never rfl (pi_enum (by rfl) Z.n_enumerate (pa_cons (pv 5) pa_nil)) (pg_tup (by rfl) (pgs_cons (pg_name (i := 13) sc_law.nd rfl (Or.inl rfl)) (pgs_cons (pg_name (i := 14) sc_law.nd rfl (Or.inl rfl)) pgs_nil)))
      (pss_one (ps_if (pt_not (pt_val (pe_cG (ok_law_is_text_right Z tbR) hgd hr (by decide) rfl (pa_cons (pv 14) (pa_cons (pe_cmpR op_eq (pe_op op_modN (pe_callTy call_intF (by rfl) Z.n_int (by decide +kernel) (pa_cons (pv 13) pa_nil)) pe_int) pe_int (nomark _)) pa_nil))))) (pss_one (ps_ret pe_bl)) pss_nil)))
    (pss_cons (ps_set (i := 5) sc_law.nd rfl (Or.inl rfl) (pe_lst (pa_cons pe_non (pa_cons pe_int (pa_cons pe_bl (pa_cons (pe_tup pa_nil) (pa_cons (pe_lst pa_nil) (pa_cons pe_dnewK (pa_cons (pe_tup (pa_cons pe_str pa_nil)) (pa_cons (pe_lst (pa_cons pe_str pa_nil)) (pa_cons (pv 2) (pa_cons pe_int (pa_cons (pe_tup (pa_cons pe_str (pa_cons pe_str (pa_cons (pe_tup (pa_cons pe_int pa_nil)) pa_nil)))) pa_nil)))))))))))))
    (pss_cons (ps_set (i := 6) sc_law.nd rfl (Or.inr rfl) (pe_c (ok_law_pick Z) hr (by decide) rfl pass0 (pa_cons (pv 1) (pa_cons (pv 5) pa_nil))))
    (pss_cons (ps_set (i := 7) sc_law.nd rfl (Or.inl rfl) (pe_lst (pa_cons (pe_told (T := T96 K) (k := 5) Z rfl TB rfl hmT huT (hr.mono (by decide)) (lamS_by (sc := defScope s_law) (by decide +kernel)) rfl (fun _ _ _ _ _ => rfl) (fun A outer s H E f c' hr2 => (pe_c (ok_read_deed Z) hr2 (by decide) rfl (passes_call (takes_of rfl rfl rfl rfl) (fun _ _ _ _ h => h)) (pa_cons (pv 6) pa_nil)))) pa_nil)))
    (pss_cons (ps_expr (pe_bm PySem.F.plainAttrs_list PySem.F.slot_list_append PySem.F.type_list_append mt_append (pv 7) (pa_cons (pe_told (T := T96 K) (k := 5) Z rfl TB rfl hmT huT (hr.mono (by decide)) (lamS_by (sc := defScope s_law) (by decide +kernel)) rfl (fun _ _ _ _ _ => rfl) (fun A outer s H E f c' hr2 => (pe_ck (ok_read_batch Z) hr2 (by decide) rfl (passes_call (takes_of rfl rfl rfl rfl) (fun _ _ _ _ h => h)) (pk_cons (pv 6) pk_nil)))) pa_nil)))
    (pss_one (ps_ret (pe_cmpR op_eq (pe_callB (call_repr hgd hu) (by rfl) Z.n_repr (by decide +kernel) (pa_cons (pv 7) pa_nil)) (pe_callB (call_repr hgd hu) (by rfl) Z.n_repr (by decide +kernel) (pa_cons (pe_lst (pa_cons (pe_tup (pa_cons pe_str (pa_cons pe_bl pa_nil))) (pa_cons (pe_tup (pa_cons pe_str (pa_cons pe_bl pa_nil))) pa_nil))) pa_nil)) (nomark _)))))))))))))))), ?_⟩
    walk_at "rd"
    refine ⟨a, ns, rfl, ha, fun p l H1 s1 d1 => ?_⟩
    have T1 := hT.ext s1
    refine ⟨_, rfl, by decide, fun q hq => ?_⟩
    have hql := (d1.ne_new hq).2
    refine ⟨p, l, 0, .ref q, rfl, d1.same (same_new hq), by decide, .inl ⟨q, ([2, 3, 1, 6, 0, 4] : List Int).map V.int, rfl, hql, upd_same, by decide, by decide, fun i x H2 hx s2 => ?_⟩⟩
    obtain ⟨z, hz, rfl⟩ := at_map hx
    have hz6 : 0 ≤ z ∧ z ≤ 6 := (show ∀ y ∈ ([2, 3, 1, 6, 0, 4] : List Int), 0 ≤ y ∧ y ≤ 6 by decide) z (List.mem_of_getElem? hz)
    have s12 : Stp p l 1 H1 H2 := (Stp.ofSame d1 (same_new hq)).trans s2
    have T2 := Tabs_two T1 d1 s12.keep
    clear hx hz
    refine ⟨z, rfl, by omega, by omega, fun D hD => ?_⟩
    have hn6 : z.toNat ≤ 6 := by omega
    refine lc_draw (N := 1) (k := 14) walk_range hD (Nat.le_trans hn6 (by decide)) s12.deck (fun i acc H' => ∃ ds, TDs H' acc (ds.map Deed.d) ∧ ds.length = i ∧ ∀ d ∈ ds, GoodD d) ⟨[], .nil, rfl, fun _ z => by cases z⟩ (fun i acc H1 H2 hp tp => by obtain ⟨ds, t, h⟩ := hp; exact ⟨ds, t.mono tp, h⟩) (fun _ _ _ => trivial) (fun i x H4 H4' acc Kt hi s4 hp hy ht => ?_) (fun acc H4 s4 e4 hl hp => ?_)
    · obtain ⟨rfl, rfl⟩ := hy
      obtain ⟨ds, t, hdl, hg⟩ := hp
      refine ⟨rfl, _, rfl, p, l, _, rfl, s4.deck, by omega, fun d v H5 hd s5 t5 => ht _ _ (s5.mono (by omega)) ⟨ds ++ [d], ?_, by rw [List.length_append, hdl]; rfl, fun d' hd' => ?_⟩⟩
      · rw [List.map_append]
        exact (t.mono (tups2 s4.deck s5.keep)).append (.cons t5 .nil)
      · rcases List.mem_append.mp hd' with z | z
        · exact hg d' z
        · rw [List.mem_singleton.mp z]
          exact hd
    obtain ⟨ds, t4, hdl, hg⟩ := hp
    have hds6 : ds.length ≤ 6 := by omega
    have T4 := Tabs_two T2 s12.deck s4.keep
    have d4 : DeckB H4 p l 100 := s4.deck.mono (by omega)
    clear s4 s2 s12 T2 T1 hT
    refine ⟨D, rfl, acc, .inl ⟨.of e4, fun b hb => ?_⟩⟩
    have d5 := d4.same (same_new (o := .tup acc) hb)
    have T5 := T4.ext (same_new (o := .tup acc) hb)
    have t5 : TD (upd H4 b (.tup acc)) (.ref b) (bdata ds) := .tup upd_same (t4.mono (tupsOf (same_new hb)))
    have b5 : upd H4 b (.tup acc) b = some (.tup acc) := upd_same
    have a5 : TDs (upd H4 b (.tup acc)) acc (ds.map Deed.d) := t4.mono (tupsOf (same_new hb))
    generalize upd H4 b (.tup acc) = H5 at d5 T5 t5 b5 a5
    have hal : acc.length = ds.length := by rw [a5.length, List.length_map]
    refine ⟨_, rfl, b, rfl, ⟨_, .of b5⟩, fun ln hln => ?_⟩
    refine lc_grow (walk_tup (xs := acc)) hln (by rw [hal]; exact Nat.le_trans hds6 (by decide)) (fun i ac _ => ac = (ds.take i).map fun d => V.str (showD d)) rfl (fun _ _ _ _ e _ _ => e) (fun H' s' => .of (s' _ _ b5)) (fun i x H6 H6' ac Kt Kf hi sm _ ea hy ht _ => ?_) (fun ac H6 s6 e6 p6 => ?_)
    · obtain ⟨rfl, hx⟩ := hy
      obtain ⟨dd, hdd, td⟩ := a5.get hx
      rw [List.getElem?_map] at hdd
      cases q : ds[i]? with
      | none =>
        rw [q] at hdd
        cases hdd
      | some d =>
        rw [q] at hdd
        cases hdd
        refine ⟨rfl, _, rfl, x, d, rfl, td.mono (tupsOf sm), (hg d (List.mem_of_getElem? q)).ok, fun H7 s7 => ht _ H7 s7 ?_⟩
        rw [ea, List.take_add_one, q, List.map_append]
        rfl
    have hlp := d5.ne_new hln
    rw [p6, hal, List.take_length] at e6
    have e6 : H6 ln = some (.lst ((ds.map showD).map V.str)) := by rw [List.map_map]; exact e6
    have L6 : LS (T96 K) p l 100 (.ref b) ds ln (ds.map showD) H6 := ⟨d5.same s6, T5.ext s6, t5.mono (tupsOf s6), e6, hlp.1, hlp.2⟩
    have b6 := s6 _ _ b5
    have a6 := a5.mono (tupsOf s6)
    have sz := size_batch hg hds6
    have e1 : (Str.ofString "\n").length = 1 := by decide +kernel
    have tB := text_showB hg hds6
    have RB := repr_batch hg hds6
    clear T5 t5 b5 a5 d5 e6 s6
    refine ⟨_, ln, ds.map showD, rfl, rfl, .of L6.lin, by rw [e1, List.length_map]; omega, ?_⟩
    rw [show Txt.join (Str.ofString "\n") (ds.map showD) = showB ds from rfl]
    refine ⟨rfl, fun hd H7 s7 n7 e7 => ?_⟩
    have L7 := L6.same s7
    have b7 := s7 _ _ b6
    have a7 := a6.mono (tupsOf s7)
    have hlen := hand_len
    refine ⟨ln, hd, _, _, rfl, rfl, L7.lin, e7, Nat.le_trans (show _ ≤ 300 by simp only [List.length_map]; omega) (by decide), fun sm hsm => ?_⟩
    rw [← List.map_append]
    have L8 := L7.same (same_new (o := .lst ((ds.map showD ++ handTexts).map V.str)) hsm)
    have b8 := same_new (o := .lst ((ds.map showD ++ handTexts).map V.str)) hsm _ _ b7
    have a8 := a7.mono (tupsOf (same_new (o := .lst ((ds.map showD ++ handTexts).map V.str)) hsm))
    have m8 : upd H7 sm (.lst ((ds.map showD ++ handTexts).map V.str)) sm = some (.lst ((ds.map showD ++ handTexts).map V.str)) := upd_same
    have nsl := (L7.deck.ne_new hsm).2
    have nsn : sm ≠ ln := (ne_of_none L7.lin hsm).symm
    have nsp := (L7.deck.ne_new hsm).1
    generalize upd H7 sm (.lst ((ds.map showD ++ handTexts).map V.str)) = H8 at L8 b8 a8 m8
    have okB := (text_ok (tB.mono (show 45 ≤ 400 by decide) (show 540 ≤ 5000 by decide))).2
    refine ⟨.ref b, ds, rfl, L8.bat, fun d hd => (hg d hd).ok, sz, fun H9 s9 => ?_⟩
    refine ⟨.ref b, ds, rfl, L8.bat.mono (tupsOf s9), fun d hd => (hg d hd).ok, sz, fun H10 s10 => ?_⟩
    refine ⟨_, rfl, .inl ⟨showB ds, rfl, okB, fun ds' v' H11 e11 s11 t11 => ⟨by decide, fun r1 hr1 => ?_⟩, fun H11 _ e11 => by rw [readB_showB hg] at e11; cases e11⟩⟩
    rw [readB_showB hg] at e11
    obtain rfl : ds = ds' := Option.some.inj e11
    have s811 : Same H8 H11 := (s9.trans s10).trans s11
    refine ⟨r1, _, rfl, .lst (.of upd_same) (.cons (.str _) (.cons (.str _) (.cons (TD.dp (t11.mono (tupsOf (same_new hr1)))) .nil))), RB.sh, RB.nd, RB.dp, RB.ln, by decide, fun r2 hr2 => ?_⟩
    have s812 := sameNew (sameNew s811 hr1 (o := .lst [.str (showB ds), .str (showB ds), v'])) hr2 (o := .lst [.str (showB ds), .str (showB ds), .ref b])
    refine ⟨r2, _, rfl, .lst (.of upd_same) (.cons (.str _) (.cons (.str _) (.cons (TD.dp (L8.bat.mono (tupsOf s812))) .nil))), RB.sh, RB.nd, RB.dp, RB.ln, scal_ss, ?_⟩
    rw [decide_eq_true rfl, if_neg (by decide)]
    have L12 := L8.same s812
    have b12 := s812 _ _ b8
    have a12 := a8.mono (tupsOf s812)
    have m12 := s812 _ _ m8
    generalize upd (upd H11 r1 (.lst [.str (showB ds), .str (showB ds), v'])) r2 (.lst [.str (showB ds), .str (showB ds), .ref b]) = H12 at L12 b12 a12 m12
    clear L8 b8 a8 m8 s812 s811 L7 b7 a7 L6 b6 a6
    refine ⟨fun σ' H' => (∃ c9 c10, σ' = [some (V.ref a), some (V.ref p), some (V.ref b), some (V.ref ln), none, some (V.ref sm), none, none, some (V.str (showB ds)), c9, c10, none, none, none, none, none]) ∧ LS (T96 K) p l 100 (.ref b) ds ln (ds.map showD) H' ∧ H' sm = some (.lst ((ds.map showD ++ handTexts).map V.str)), ?_, ?_⟩
    · walk_at "rd"
      refine ⟨_, rfl, _, rfl, b, ln, acc, (ds.map showD).map V.str, rfl, .of b12, .of L12.lin, ?_⟩
      refine for_it (walk_zipM (xs := acc) (ys := (ds.map showD).map V.str) (by rw [hal, List.length_map, List.length_map])) (fun _ σ' H' => (∃ c9 c10, σ' = [some (V.ref a), some (V.ref p), some (V.ref b), some (V.ref ln), none, some (V.ref sm), none, none, some (V.str (showB ds)), c9, c10, none, none, none, none, none]) ∧ LS (T96 K) p l 100 (.ref b) ds ln (ds.map showD) H' ∧ H' sm = some (.lst ((ds.map showD ++ handTexts).map V.str)) ∧ H' b = some (.tup acc) ∧ TDs H' acc (ds.map Deed.d))
        ⟨⟨_, _, rfl⟩, L12, m12, b12, a12⟩ (fun _ _ H' _ q => ⟨.of q.2.2.2.1, .of q.2.1.lin⟩) (fun i y σ' Ha Hb hi hp hy => ?_) (fun σ' H' hp => ⟨hp.1, hp.2.1, hp.2.2.1⟩)
      obtain ⟨⟨c9, c10, rfl⟩, La, ma, ba, aa⟩ := hp
      obtain ⟨c, y1, y2, rfl, nc, rfl, hy1, hy2⟩ := hy
      refine ⟨c, _, rfl, .of upd_same, rfl, _, _, rfl, _, _, rfl, rfl, ?_⟩
      walk_at "rd"
      obtain ⟨dd, hdd, td⟩ := aa.get hy1
      rw [List.getElem?_map] at hdd
      cases q : ds[i]? with
      | none =>
        rw [q] at hdd
        cases hdd
      | some d =>
        rw [q] at hdd
        cases hdd
        have hy2 : ((ds.map showD).map V.str)[i]? = some y2 := hy2
        rw [List.map_map, List.getElem?_map, q] at hy2
        obtain rfl : V.str (showD d) = y2 := Option.some.inj hy2
        have gd := hg d (List.mem_of_getElem? q)
        have okD := (text_ok ((text_showD gd).mono (show 45 ≤ 400 by decide) (show 540 ≤ 5000 by decide))).1
        have RD := repr_deed gd
        have fin : ∀ Hz, Same Ha Hz → LS (T96 K) p l 100 (.ref b) ds ln (ds.map showD) Hz ∧ Hz sm = some (.lst ((ds.map showD ++ handTexts).map V.str)) ∧ Hz b = some (.tup acc) ∧ TDs Hz acc (ds.map Deed.d) := fun Hz sz' => ⟨La.same sz', sz' _ _ ma, sz' _ _ ba, aa.mono (tupsOf sz')⟩
        have sc := same_new (o := .tup [y1, .str (showD d)]) nc
        refine ⟨y1, d, rfl, td.mono (tupsOf sc), gd.ok, fun Hc s3 => ⟨y1, d, rfl, td.mono (tupsOf (sc.trans s3)), gd.ok, fun Hd s4 => ?_⟩⟩
        refine ⟨_, rfl, .inl ⟨showD d, rfl, okD, fun d' v2 He e5 s5 t5 => ⟨by decide, fun u1 hu1 => ?_⟩, fun He _ e5 => by rw [readD_showD gd] at e5; cases e5⟩⟩
        rw [readD_showD gd] at e5
        obtain rfl : d = d' := Option.some.inj e5
        have s6 : Same Ha He := ((sc.trans s3).trans s4).trans s5
        refine ⟨u1, _, rfl, .lst (.of upd_same) (.cons (.str _) (.cons (.str _) (.cons (TD.dp (t5.mono (tupsOf (same_new hu1)))) .nil))), RD.sh, RD.nd, RD.dp, RD.ln, by decide, fun u2 hu2 => ?_⟩
        have s7 := sameNew (sameNew s6 hu1 (o := .lst [.str (showD d), .str (showD d), v2])) hu2 (o := .lst [.str (showD d), .str (showD d), y1])
        refine ⟨u2, _, rfl, .lst (.of upd_same) (.cons (.str _) (.cons (.str _) (.cons (TD.dp (td.mono (tupsOf s7))) .nil))), RD.sh, RD.nd, RD.dp, RD.ln, scal_ss, ?_⟩
        rw [decide_eq_true rfl, if_neg (by decide)]
        exact fin _ s7
    · rintro σ' H' ⟨⟨c9, c10, rfl⟩, L13, m13⟩
      have lns : ∀ y ∈ ds.map showD ++ [showB ds], TextA 45 540 y := fun y hy => by
        rcases List.mem_append.mp hy with h | h
        · obtain ⟨d, hd, rfl⟩ := List.mem_map.mp h
          exact text_showD (hg d hd)
        · rw [List.mem_singleton.mp h]
          exact tB
      have ts0 : ∀ y ∈ ds.map showD ++ handTexts, TextA 400 5000 y := fun y hy => by
        rcases List.mem_append.mp hy with h | h
        · obtain ⟨d, hd, rfl⟩ := List.mem_map.mp h
          exact (text_showD (hg d hd)).mono (by decide) (by decide)
        · exact hand_text h
      refine ⟨fun σ' H' => ∃ (c4 c9 c10 c11 c12 : Option V) (ts : List Str), σ' = [some (V.ref a), some (V.ref p), some (V.ref b), some (V.ref ln), c4, some (V.ref sm), none, none, some (V.str (showB ds)), c9, c10, c11, c12, none, none, none] ∧ LS (T96 K) p l 1000 (.ref b) ds ln (ds.map showD) H' ∧ H' sm = some (.lst (ts.map V.str)) ∧ (∀ y ∈ ts, TextA 400 5000 y) ∧ ts.length ≤ 300, ?_, ?_⟩
      · refine ⟨14, rfl, by decide, by decide, ?_⟩
        refine for_it (walk_range (n := 14)) (fun i σ' H' => ∃ (c4 c9 c10 c11 c12 : Option V) (ts : List Str), σ' = [some (V.ref a), some (V.ref p), some (V.ref b), some (V.ref ln), c4, some (V.ref sm), none, none, some (V.str (showB ds)), c9, c10, c11, c12, none, none, none] ∧ LS (T96 K) p l (100 + 30 * i) (.ref b) ds ln (ds.map showD) H' ∧ H' sm = some (.lst (ts.map V.str)) ∧ (∀ y ∈ ts, TextA 400 5000 y) ∧ ts.length ≤ 210 + i)
          ⟨_, _, _, _, _, ds.map showD ++ handTexts, rfl, L13, m13, ts0, by rw [List.length_append, List.length_map]; omega⟩ (fun _ _ _ _ _ => trivial) (fun i y σ' Ha Hb hi hp hy => ?_) (fun σ' H' hp => ?_)
        · obtain ⟨c4, c9, c10, c11, c12, ts, rfl, La, ma, hts, htl⟩ := hp
          obtain ⟨rfl, rfl⟩ := hy
          walk_at "rd"
          refine ⟨by decide, fun q1 hq1 => ?_⟩
          have Lb := La.same (same_new (o := .lst [.str (showB ds)]) hq1)
          have mb := same_new (o := .lst [.str (showB ds)]) hq1 _ _ ma
          have lq : upd Hb q1 (.lst [.str (showB ds)]) q1 = some (.lst ([showB ds].map V.str)) := upd_same
          generalize upd Hb q1 (.lst [.str (showB ds)]) = Hc at Lb mb lq
          refine cat_stepN Lb.lin lq (by rw [List.length_map]; exact Nat.le_trans (Nat.add_le_add_right hds6 _) (show 6 + 1 ≤ 100000 by decide)) fun q2 Hd nq2' sd lq2 => ?_
          have Ld := Lb.same sd
          have md := sd _ _ mb
          have nq2 : q2 ≠ l := (Lb.deck.ne_new nq2').2
          refine ⟨p, l, 100 + 30 * i, .ref q2, rfl, Ld.deck, by omega, .inl ⟨q2, _, rfl, nq2, lq2, by rw [List.length_map, List.length_append, List.length_singleton]; omega, by rw [List.length_map, List.length_append, List.length_singleton, List.length_map]; omega, fun jx xx He hxx se => ?_⟩⟩
          obtain ⟨y0, hy0, rfl⟩ := at_map hxx
          have ty0 := lns y0 (List.mem_of_getElem? hy0)
          have Le := Ld.stp se
          have me := se.keep _ _ nsp nsl md
          refine ⟨fun σ' H' => ∃ (y : Str) (c12 : Option V), σ' = [some (V.ref a), some (V.ref p), some (V.ref b), some (V.ref ln), some (V.int (0 + (i : Int))), some (V.ref sm), none, none, some (V.str (showB ds)), c9, c10, some (V.str y), c12, none, none, none] ∧ TextA 400 5000 y ∧ LS (T96 K) p l (100 + 30 * (i + 1)) (.ref b) ds ln (ds.map showD) H' ∧ H' sm = some (.lst (ts.map V.str)), ?_, ?_⟩
          · refine ⟨_, rfl, p, l, 100 + 30 * i + 1, 3, rfl, Le.deck, by omega, by decide, by decide, fun r3 Hf hr3 sf => ?_⟩
            have Lf := Le.stp sf
            have mf := sf.keep _ _ nsp nsl me
            refine ⟨1, _, rfl, rfl, (1 : Int) + (r3 : Nat), rfl, by omega, by omega, ?_⟩
            have en : ((1 : Int) + (r3 : Nat)).toNat = 1 + r3 := by omega
            rw [en]
            refine for_it (walk_range (n := 1 + r3)) (fun k σ' H' => ∃ (y : Str) (c12 : Option V), σ' = [some (V.ref a), some (V.ref p), some (V.ref b), some (V.ref ln), some (V.int (0 + (i : Int))), some (V.ref sm), none, none, some (V.str (showB ds)), c9, c10, some (V.str y), c12, none, none, none] ∧ TextA (wOf k) (lOf k) y ∧ LS (T96 K) p l (100 + 30 * i + 2 + 8 * k) (.ref b) ds ln (ds.map showD) H' ∧ H' sm = some (.lst (ts.map V.str)))
              ⟨y0, _, rfl, ty0, Lf, mf⟩ (fun _ _ _ _ _ => trivial) (fun k yy σ' Hg Hh hk hp hy => ?_) (fun σ' H' hp => ?_)
            · obtain ⟨y, c12, rfl, ty, Lg, mg'⟩ := hp
              obtain ⟨rfl, rfl⟩ := hy
              obtain ⟨w1, w2, w3, w4⟩ := of_le k (by omega)
              walk_at "rd"
              exact ⟨p, l, _, wOf k, lOf k, y, rfl, Lg.deck, by omega, w1, w3, w4, ty, fun y' H' ty' s' => ⟨y', rfl, ty', (Lg.stp s').mono (by omega), s'.keep _ _ nsp nsl mg'⟩⟩
            · obtain ⟨y, c12, h1, h2, h3, h4⟩ := hp
              obtain ⟨w1, w2, w3, w4⟩ := of_le (1 + r3) (by omega)
              exact ⟨y, c12, h1, h2.mono w2 w4, h3.mono (by omega), h4⟩
          · rintro σ' H' ⟨y, c12', rfl, ty, Lz, mz⟩
            walk_at "rd"
            refine ⟨tyV_list (.of mz), sm, _, _, rfl, rfl, mz, Nat.lt_of_le_of_lt (show _ ≤ 300 by rw [List.length_map]; omega) (by decide), ?_⟩
            refine ⟨Lz.app mz nsl nsn, ts ++ [y], by rw [upd_same, List.map_append]; rfl, fun y' hy' => ?_, by rw [List.length_append, List.length_singleton]; omega⟩
            rcases List.mem_append.mp hy' with h | h
            · exact hts y' h
            · rw [List.mem_singleton.mp h]
              exact ty
        · obtain ⟨c4, c9, c10, c11, c12, ts, h1, h2, h3, h4, h5⟩ := hp
          exact ⟨c4, c9, c10, c11, c12, ts, h1, h2.mono (by decide), h3, h4, Nat.le_trans h5 (by decide)⟩
      · rintro σ' H' ⟨c4, c9, c10, c11, c12, ts, rfl, L14, m14, hts, htl⟩
        refine ⟨fun σ' H' => ∃ (c13 c14 : Option V), σ' = [some (V.ref a), some (V.ref p), some (V.ref b), some (V.ref ln), c4, some (V.ref sm), none, none, some (V.str (showB ds)), c9, c10, c11, c12, c13, c14, none] ∧ LS (T96 K) p l 1000 (.ref b) ds ln (ds.map showD) H', ?_, ?_⟩
        · refine ⟨_, rfl, sm, ts.map V.str, rfl, .of m14, ?_⟩
          refine for_it (walk_enum (xs := ts.map V.str)) (fun _ σ' H' => ∃ (c13 c14 : Option V), σ' = [some (V.ref a), some (V.ref p), some (V.ref b), some (V.ref ln), c4, some (V.ref sm), none, none, some (V.str (showB ds)), c9, c10, c11, c12, c13, c14, none] ∧ LS (T96 K) p l 1000 (.ref b) ds ln (ds.map showD) H' ∧ H' sm = some (.lst (ts.map V.str))) ⟨_, _, rfl, L14, m14⟩ (fun _ _ H' _ q => by obtain ⟨_, _, _, _, q⟩ := q; exact .of q) (fun i y σ' Ha Hb hi hp hy => ?_) (fun σ' H' hp => by obtain ⟨c13, c14, h1, h2, _⟩ := hp; exact ⟨c13, c14, h1, h2⟩)
          obtain ⟨c13, c14, rfl, La, ma⟩ := hp
          obtain ⟨c, y1, y2, rfl, nc, rfl, hy1, hy2⟩ := hy
          obtain rfl : V.int (i : Nat) = y1 := Option.some.inj hy1
          obtain ⟨z2, hz2, rfl⟩ := at_map hy2
          refine ⟨c, _, rfl, .of upd_same, rfl, _, _, rfl, _, _, rfl, rfl, ?_⟩
          walk_at "rd"
          have sc := same_new (o := .tup [V.int (i : Nat), V.str z2]) nc
          have Lc := La.same sc
          have mc := sc _ _ ma
          refine ⟨by decide, z2, _, rfl, hts z2 (List.mem_of_getElem? hz2), Lc.tabs, fun Hd ed => ⟨true, rfl, ?_⟩⟩
          rw [if_neg (by decide)]
          exact ⟨Lc.ext ed.keep ed.tabs, ed.keep _ _ mc (fun _ z => by cases z)⟩
        · rintro σ' H' ⟨c13, c14, rfl, L15⟩
          walk_at "rd"
          refine ⟨by decide, fun o1 ho1 => ⟨by decide, fun o2 ho2 => ?_⟩⟩
          have k1 := same_new (o := .tup []) ho1
          have k2 := same_new (o := .lst []) ho2
          have e1 : upd (upd H' o1 (.tup [])) o2 (.lst []) o1 = some (.tup []) := k2 _ _ upd_same
          have e2 : upd (upd H' o1 (.tup [])) o2 (.lst []) o2 = some (.lst []) := upd_same
          have L16 := L15.same (k1.trans k2)
          generalize upd (upd H' o1 (.tup [])) o2 (.lst []) = Ha at L16 e1 e2
          intro o3 ho3
          refine ⟨by decide, fun o4 ho4 => ⟨by decide, fun o5 ho5 => ⟨by decide, fun o6 ho6 => ⟨by decide, fun o7 ho7 => ⟨by decide, fun o8 ho8 => ?_⟩⟩⟩⟩⟩
          have k3 := same_new (o := .dK []) ho3
          have e3 : upd Ha o3 (.dK []) o3 = some (.dK []) := upd_same
          have e1 := k3 _ _ e1
          have e2 := k3 _ _ e2
          have L17 := L16.same k3
          generalize upd Ha o3 (.dK []) = Hb at L17 e1 e2 e3 ho4 ho5 ho6 ho7 ho8 ⊢
          have k4 := same_new (o := .tup [.str "put item 1"]) ho4
          have e4 : upd Hb o4 (.tup [.str (Str.ofString "put item 1")]) o4 = some (.tup [.str "put item 1"]) := upd_same
          have e1 := k4 _ _ e1
          have e2 := k4 _ _ e2
          have e3 := k4 _ _ e3
          have L18 := L17.same k4
          generalize upd Hb o4 (.tup [.str (Str.ofString "put item 1")]) = Hc at L18 e1 e2 e3 e4 ho5 ho6 ho7 ho8 ⊢
          have k5 := same_new (o := .lst [.str "put item 1"]) ho5
          have e5 : upd Hc o5 (.lst [.str (Str.ofString "put item 1")]) o5 = some (.lst [.str "put item 1"]) := upd_same
          have e1 := k5 _ _ e1
          have e2 := k5 _ _ e2
          have e3 := k5 _ _ e3
          have e4 := k5 _ _ e4
          have L19 := L18.same k5
          generalize upd Hc o5 (.lst [.str (Str.ofString "put item 1")]) = Hd at L19 e1 e2 e3 e4 e5 ho6 ho7 ho8 ⊢
          have k6 := same_new (o := .tup [.int 1]) ho6
          have e1 := k6 _ _ e1
          have e2 := k6 _ _ e2
          have e3 := k6 _ _ e3
          have e4 := k6 _ _ e4
          have e5 := k6 _ _ e5
          have L20 := L19.same k6
          generalize upd Hd o6 (.tup [.int 1]) = He at L20 e1 e2 e3 e4 e5 ho7 ho8 ⊢
          have k7 := same_new (o := .tup [.str "put", .str "item", .ref o6]) ho7
          have e7 : upd He o7 (.tup [.str (Str.ofString "put"), .str (Str.ofString "item"), .ref o6]) o7 = some (.tup [.str "put", .str "item", .ref o6]) := upd_same
          have e1 := k7 _ _ e1
          have e2 := k7 _ _ e2
          have e3 := k7 _ _ e3
          have e4 := k7 _ _ e4
          have e5 := k7 _ _ e5
          have L21 := L20.same k7
          generalize upd He o7 (.tup [.str (Str.ofString "put"), .str (Str.ofString "item"), .ref o6]) = Hf at L21 e1 e2 e3 e4 e5 e7 ho8 ⊢
          have L22 := L21.same (same_new (o := .lst [.non, .int 0, .bl true, .ref o1, .ref o2, .ref o3, .ref o4, .ref o5, .ref b, .int 1, .ref o7]) ho8)
          have n8 := (L21.deck.ne_new ho8).2
          refine ⟨p, l, 1000, .ref o8, rfl, L22.deck, by decide, .inl ⟨o8, _, rfl, n8, upd_same, by show 0 < 11; decide, by show 11 < 1000000; decide, fun ix th Hg hth sg => ?_⟩⟩
          have nt : NoText Hf th := by
            have hm := List.mem_of_getElem? hth
            simp only [List.mem_cons, List.not_mem_nil, or_false] at hm
            rcases hm with rfl | rfl | rfl | rfl | rfl | rfl | rfl | rfl | rfl | rfl | rfl
            · exact rfl
            · exact rfl
            · exact rfl
            · exact ⟨.inr (.inl ⟨_, e1⟩), rfl⟩
            · exact ⟨.inl ⟨_, e2⟩, rfl⟩
            · exact ⟨.inr (.inr ⟨_, e3⟩), rfl⟩
            · exact ⟨.inr (.inl ⟨_, e4⟩), rfl⟩
            · exact ⟨.inl ⟨_, e5⟩, rfl⟩
            · have bt := L21.bat
              cases bt with
              | tup eb _ => exact ⟨.inr (.inl ⟨_, eb⟩), rfl⟩
            · exact rfl
            · exact ⟨.inr (.inl ⟨_, e7⟩), rfl⟩
          have nt := (KP.same (same_new (o := .lst [.non, .int 0, .bl true, .ref o1, .ref o2, .ref o3, .ref o4, .ref o5, .ref b, .int 1, .ref o7]) ho8)).nt nt
          have nt := (KP.stp L22.deck sg).nt nt
          have L23 := L22.stp sg
          refine ⟨L23.tabs, fun Hh eh Th => ?_⟩
          have nt := (KP.ext eh).nt nt
          have L24 := L23.ext eh Th
          refine told_nt nt fun t1 ht1 => ⟨by decide, fun tl0 htl => ?_⟩
          have k1 := same_new (o := .tup [.str "invalid", .bl true]) ht1
          have k2 := same_new (o := .lst [.ref t1]) htl
          have L25 := (L24.same k1).same k2
          refine ⟨tyV_list (.of upd_same), L25.tabs, fun Hi ei Ti => ?_⟩
          have nt := ((KP.same (k1.trans k2)).nt nt)
          have nt := (KP.ext ei).nt nt
          have f1 := ei _ _ (k2 _ _ (upd_same (H := Hh) (a := t1) (o := .tup [.str "invalid", .bl true]))) (fun _ z => by cases z)
          have f2 := ei _ _ (upd_same (H := upd Hh t1 (.tup [.str "invalid", .bl true])) (a := tl0) (o := .lst [.ref t1])) (fun _ z => by cases z)
          refine told_ntB nt fun t2 ht2 => ?_
          have k3 := same_new (o := .tup [.str "invalid", .bl true]) ht2
          have f1 := k3 _ _ f1
          have f2 := k3 _ _ f2
          have f3 : upd Hi t2 (.tup [.str "invalid", .bl true]) t2 = some (.tup [.str "invalid", .bl true]) := upd_same
          generalize upd Hi t2 (.tup [.str (Str.ofString "invalid"), .bl true]) = Hj at f1 f2 f3 ⊢
          refine ⟨tl0, _, .ref t2, rfl, rfl, f2, by show 1 < sizeLine; decide, ?_⟩
          have f1 := tups_app (ys := [.ref t1, .ref t2]) f2 _ _ f1
          have f3 := tups_app (ys := [.ref t1, .ref t2]) f2 _ _ f3
          have f4 : upd Hj tl0 (.lst [.ref t1, .ref t2]) tl0 = some (.lst [.ref t1, .ref t2]) := upd_same
          rw [show [V.ref t1] ++ [V.ref t2] = [V.ref t1, V.ref t2] from rfl]
          have R := inv_repr
          have tt : ∀ {Hq : Hp} {q : Addr}, Hq q = some (.tup [.str "invalid", .bl true]) → Dp K Hq (.ref q) (.tuple [.str "invalid", .bool true]) := fun e => .tup (.of e) (.cons (.str _) (.cons (.bl _) .nil))
          refine ⟨tl0, invD, rfl, .lst (.of f4) (.cons (tt f1) (.cons (tt f3) .nil)), R.sh, R.nd, R.dp, R.ln, by decide, fun u1 hu1 => ⟨by decide, fun u2 hu2 => ⟨by decide, fun u3 hu3 => ?_⟩⟩⟩
          have g3 := same_new (o := .lst [.ref u1, .ref u2]) hu3
          have g1 := g3 _ _ (same_new hu2 _ _ (upd_same (a := u1) (o := .tup [.str (Str.ofString "invalid"), .bl true])))
          refine ⟨u3, invD, rfl, .lst (.of upd_same) (.cons (tt g1) (.cons (tt (g3 _ _ upd_same)) .nil)), R.sh, R.nd, R.dp, R.ln, scal_ss, ?_⟩
          rw [decide_eq_true rfl]
          exact hQ _
end
end K96

namespace K96
open PySem PySem.Spec PyProof.Rows L2 G96 TL
open LamX
section
variable {P : Program} {w : World} {K : PySem.W.Frag} {mg mb : Str → Option Value} {s : Shared} {a : Addr} {vs : List Value} {ns : List Int} {cs : List (Addr × Addr)}
abbrev listO (vs : List Value) : Obj := { cls := .type "list", data := .seq vs.toArray }
abbrev tabO : Obj := { cls := .none, data := .fields #[] }
/-- at the law's call: the tables are tracked, and the script, where the written part has no word of it -/
def hp0 (K : PySem.W.Frag) (cs : List (Addr × Addr)) (a : Addr) (vs : List Value) (ns : List Int) : Hp := fun b =>
  if cs.any (fun p => p.2 == b) = true then some (.tbl #[]) else if b = a ∧ (K.lookup a).isNone = true then some (.frz (listO vs) (.lst (ns.map V.int))) else none
theorem hp0_tab {p : Addr × Addr} (hp : p ∈ cs) : hp0 K cs a vs ns p.2 = some (.tbl #[]) := by
  unfold hp0
  have q : cs.any (fun r => r.2 == p.2) = true := List.any_eq_true.mpr ⟨p, hp, beq_iff_eq.mpr rfl⟩
  rw [if_pos q]
theorem hp0_cases (b : Addr) : (∃ p ∈ cs, p.2 = b ∧ hp0 K cs a vs ns b = some (.tbl #[])) ∨ (b = a ∧ K.lookup a = none ∧ hp0 K cs a vs ns b = some (.frz (listO vs) (.lst (ns.map V.int)))) ∨ hp0 K cs a vs ns b = none := by
  unfold hp0
  by_cases h1 : cs.any (fun p => p.2 == b) = true
  · obtain ⟨p, hp, e⟩ := List.any_eq_true.mp h1
    exact .inl ⟨p, hp, beq_iff_eq.mp e, if_pos h1⟩
  · rw [if_neg h1]
    by_cases h2 : b = a ∧ (K.lookup a).isNone = true
    · exact .inr (.inl ⟨h2.1, Option.isNone_iff_eq_none.mp h2.2, if_pos h2⟩)
    · exact .inr (.inr (if_neg h2))
structure Start (P : Program) (w : World) (K : PySem.W.Frag) (mg mb : Str → Option Value) (s : Shared) (a : Addr) (vs : List Value) (ns : List Int) (cs : List (Addr × Addr)) : Prop where
  kin : K.In s.heap
  main : s.heap.Ns mainGlobals mg
  blt : s.heap.Ns builtinsNs mb
  boot : ∀ x : Str, x ≠ "__name__" → mb x = bootBuiltins x
  lim : s.heap.NoLimit
  gens : s.gens = #[]
  tab : ∀ p ∈ cs, s.heap.get? p.2 = some tabO
  out : ∀ p ∈ cs, K.lookup p.2 = none
  code : ∀ p ∈ cs, PySem.W.CodeHd s.heap p.1 p.2
  bm : ∃ (m : Addr) (o : Obj), mg "__builtins__" = some (.ref m) ∧ m ≠ builtinsNs ∧ s.heap.get? m = some o ∧ o.cls = .type "module" ∧ o.dict = some builtinsNs ∧ o.data = .plain
  obj : s.heap.get? a = some (listO vs)
  nums : IntsAre vs ns
  len : ns.length ≤ sizeLine
theorem Start.unseen (S : Start P w K mg mb s a vs ns cs) {b : Addr} {o : Obj} (e : s.heap.get? b = some o) (h1 : ∀ us n, o.data ≠ .seq us n) (h2 : o.data ≠ .fields #[]) : hp0 K cs a vs ns b = none := by
  rcases hp0_cases (K := K) (a := a) (vs := vs) (ns := ns) (cs := cs) b with ⟨p, hp, rfl, _⟩ | ⟨rfl, _, _⟩ | h
  · rw [S.tab p hp] at e
    exact absurd (congrArg Obj.data (Option.some.inj e)).symm h2
  · rw [S.obj] at e
    exact absurd (congrArg Obj.data (Option.some.inj e)).symm (h1 _ _)
  · exact h
theorem Start.seq (S : Start P w K mg mb s a vs ns cs) : SqL K (hp0 K cs a vs ns) a (ns.map V.int) := by
  have rv := vals_ints S.nums
  cases hk : K.lookup a with
  | some o =>
    have e := S.kin a o hk
    rw [S.obj] at e
    obtain rfl := Option.some.inj e
    exact .inr ⟨_, vs.toArray, _, hk, rfl, rfl, rfl, by rw [List.size_toArray, S.nums.length]; exact S.len, by simpa using rv⟩
  | none =>
    rcases hp0_cases (K := K) (a := a) (vs := vs) (ns := ns) (cs := cs) a with ⟨p, hp, e, _⟩ | ⟨_, _, h⟩ | h
    · have z := S.tab p hp
      rw [e, S.obj] at z
      cases z
    · exact .inl (.inr ⟨_, h⟩)
    · unfold hp0 at h
      split at h
      · cases h
      · rw [if_pos ⟨rfl, by rw [hk]; rfl⟩] at h
        cases h
theorem Start.hok (S : Start P w K mg mb s a vs ns cs) : HOk P w (hp0 K cs a vs ns) s.heap := fun b u z => by
  rcases hp0_cases (K := K) (a := a) (vs := vs) (ns := ns) (cs := cs) b with ⟨p, hp, rfl, h⟩ | ⟨rfl, _, h⟩ | h
  · rw [h] at z
    cases z
    exact S.tab p hp
  · rw [h] at z
    cases z
    exact ⟨S.obj, by rw [List.length_map]; exact S.len, vs, _, vals_ints S.nums, S.obj⟩
  · rw [h] at z
    cases z
theorem Start.mod (S : Start P w K mg mb s a vs ns cs) : L2.Mod K mg (hidT s.heap (hp0 K cs a vs ns)) := by
  have dict : ∀ {b : Addr} {m : Str → Option Value}, s.heap.Ns b m → (hidT s.heap (hp0 K cs a vs ns)).Ns b m := fun {b m} ⟨o, es, ep, e, d, r⟩ =>
    ⟨o, es, ep, hidT_get e (S.unseen e (fun _ _ z => by rw [d] at z; cases z) fun z => by rw [d] at z; cases z), d, r⟩
  obtain ⟨m, l1, l2⟩ := S.lim
  refine ⟨fun b o e => hidT_get (S.kin b o e) ?_, dict S.main, ⟨mb, dict S.blt, S.boot⟩, m, dict l1, l2⟩
  rcases hp0_cases (K := K) (a := a) (vs := vs) (ns := ns) (cs := cs) b with ⟨p, hp, rfl, _⟩ | ⟨rfl, hk, _⟩ | h
  · rw [S.out p hp] at e
    cases e
  · rw [hk] at e
    cases e
  · exact h
theorem Start.tabs (S : Start P w K mg mb s a vs ns cs) {p : Addr × Addr} (hp : p ∈ cs) : TabB (hidT s.heap (hp0 K cs a vs ns)) mg p.1 p.2 := by
  have tp := S.tab p hp
  refine ⟨?_, ?_, fun z => ?_⟩
  · obtain ⟨o, us, file, tf, flags, tg, inF, text, tt, e1, r1, r2, r3, rest⟩ := S.code p hp
    refine ⟨o, us, file, tf, flags, tg, inF, text, tt, hidT_get e1 (S.unseen e1 (fun _ _ z => by rw [r2] at z; cases z) fun z => ?_), r1, r2, r3, rest⟩
    rw [r2] at z
    cases z
    simp at r3
  · obtain ⟨m, o, b1, b2, b3, b4, b5, b6⟩ := S.bm
    have n1 : m ≠ mainGlobals := fun q => by
      obtain ⟨o2, es, ep, e, hd, _⟩ := S.main
      rw [q, e] at b3
      cases b3
      rw [hd] at b6
      cases b6
    have n2 : m ≠ p.2 := fun q => by
      rw [q, tp] at b3
      cases b3
      cases b6
    exact ⟨m, o, b1, b2, n1, n2, hidT_get b3 (S.unseen b3 (fun _ _ z => by rw [b6] at z; cases z) fun z => by rw [b6] at z; cases z), b4, b5, b6⟩
  · obtain ⟨o, es, ep, e, hd, _⟩ := S.main
    rw [z, tp] at e
    cases e
    cases hd
theorem Start.env (S : Start P w K mg mb s a vs ns cs) : Env0 P w K mg (hidT s.heap (hp0 K cs a vs ns)) callerA [] s (hp0 K cs a vs ns) where
  frames := rfl
  mod := S.mod
  bs := fun _ _ e => of_hidT e
  bsz := Nat.le_of_eq (hidT_size _ _)
  funs := trivial
  frf := fun _ h => nomatch h
  hok := S.hok
  bare := .of_eq S.gens
/-- the end: what the call leaves -/
theorem Start.fin (S : Start P w K mg mb s a vs ns cs) {r : Result} {s' : Shared} (h : CR L2.CX0 [] P w (hp0 K cs a vs ns) s (fun v _ => v = .bl true) E0 r s') : r = .ok (.ret (.bool true)) ∧ OldK s.heap s'.heap ∧ s'.os = s.os ∧ AllBare s'.gens := by
  match r, h with
  | .error _, h => exact (show False from h).elim
  | .ok .next, h => exact (show False from h).elim
  | .ok .brk, h => exact (show False from h).elim
  | .ok .cont, h => exact (show False from h).elim
  | .ok (.ret u), h =>
    obtain ⟨v, H', os, bare, un, ok, rv, rfl⟩ := h
    obtain rfl : u = Value.bool true := rv
    have same : ∀ b o, (∀ p ∈ cs, p.2 ≠ b) → s.heap.get? b = some o → s'.heap.get? b = some o := fun b o nb e => by
      rcases hp0_cases (K := K) (a := a) (vs := vs) (ns := ns) (cs := cs) b with ⟨p, hp, q, _⟩ | ⟨rfl, _, q⟩ | q
      · exact absurd q (nb p hp)
      · have z := (ok b _ (un.frzs b _ _ q)).1
        rw [S.obj] at e
        rw [z, ← e]
      · exact un.keep b o e q (fun z => nomatch z) (fun z => nomatch z)
    have grown : ∀ p ∈ cs, ∃ more : Array Value, s'.heap.get? p.2 = some { cls := .none, data := .fields more } := fun p hp => by
      obtain ⟨more, z⟩ := un.tbls p.2 #[] (hp0_tab hp)
      exact ⟨_, ok p.2 _ z⟩
    have split : ∀ b o, s.heap.get? b = some o → s'.heap.get? b = some o ∨ ∃ p ∈ cs, p.2 = b := fun b o e => by
      by_cases hb : ∃ p ∈ cs, p.2 = b
      · exact .inr hb
      · exact .inl (same b o (fun p hp q => hb ⟨p, hp, q⟩) e)
    refine ⟨rfl, ⟨fun b o e => ?_, fun b o e => ?_⟩, os, bare⟩
    · rcases split b o e with q | ⟨p, hp, rfl⟩
      · exact .inl q
      · obtain ⟨more, hm⟩ := grown p hp
        rw [S.tab p hp] at e
        obtain rfl := Option.some.inj e
        exact .inr (.inl ⟨((S.code p hp).tab (S.tab p hp)).isCodeTable, rfl, #[], more, rfl, by rw [hm, Array.empty_append]⟩)
    · rcases split b o e with q | ⟨p, hp, rfl⟩
      · exact ⟨o, q⟩
      · obtain ⟨more, hm⟩ := grown p hp
        exact ⟨_, hm⟩
end
end K96

namespace K96
open PySem PySem.Spec PyProof.Rows L2 G96 TL
open LamX
theorem law_called {w : World} {h s₀ : Shared} {mg mb : Str → Option Value} {a fa' : Addr} {vs : List Value} {ns : List Int} {K : PySem.W.Frag} {P : Program}
    (S : Start P w K mg mb h a vs ns (tf.map (He.cT K))) (c : He.SaysD fa fn K) (e : ex K = true) (hm : mg "law" = some (.ref fa')) :
    codeAny (model P w) callerA (.call (.ref fa') ⟨[.ref a], []⟩) (fun r s' => r = .ok (.ret (.bool true)) ∧ OldK h.heap s'.heap ∧ s'.os = h.os ∧ AllBare s'.gens) h := by
  have Z : Tx K mg (hidT h.heap (hp0 K (tf.map (He.cT K)) a vs ns)) := ⟨c, S.mod.kin, S.mod.glob, e⟩
  have m1 : He.cT K ("_law_is_text_right", none) ∈ tf.map (He.cT K) := List.mem_cons_self
  have m2 : He.cT K ("law", none) ∈ tf.map (He.cT K) := List.mem_cons_of_mem _ List.mem_cons_self
  obtain ⟨f, fd, len, run, hb, hmf, kp⟩ := (ok_law (P := P) (w := w) Z (S.tabs m1) (S.tabs m2)).ex
  rw [hm] at hmf
  obtain rfl : fa' = f := Value.ref.inj (Option.some.inj hmf)
  have room : Room 11 callerA := ⟨rfl, by decide, by decide⟩
  have tabs : Tabs (T96 K) (hp0 K (tf.map (He.cT K)) a vs ns) := fun p hp => by
    rcases List.mem_cons.mp hp with rfl | hp
    · exact TabS.nil (hp0_tab m1)
    · rw [List.mem_singleton.mp hp]
      exact TabS.nil (hp0_tab m2)
  have bind := hb h [.ref a] S.kin rfl
  exact codeAny_mono (run callerA [] h _ ⟨[.ref a], []⟩ [.ref a] [.ref a] (fun v _ => v = .bl true) rfl room S.env bind (.cons rfl .nil) ⟨a, ns, rfl, S.seq, tabs, fun _ => rfl⟩) fun r s' q => S.fin q
end K96
open PySem PySem.W PySem.Calls PyProof.Rows
theorem PySem.Challenge.cw_failswhole_k96_texts_of_deeds_and_batche_holds : PySem.Challenge.rw_failswhole_k96_texts_of_deeds_and_batche.Holds := by
  w_on; o_law
  refine HandSHeadRun.head_any (r := K96.R) (q := view K96.R.prog [45]) (H := K96.hk) (ob := K96.ob) (M := 3000) (loose := K96.names ++ K96.names2) (d := HandSHeadRun.topDef K96.R.prog 45) (kwd := []) K96.ob_eq
    (by kernel_rfl) (fun s => by kernel_rfl) K96.run (by kernel_rfl) (by kernel_rfl) (by kernel_rfl) (by rfl) (by first | assumption | decide +kernel) (by decide +kernel) ⟨rfl, rfl, rfl, rfl, rfl, by decide +kernel⟩ ?hw ?hc
  case hw => w_witness2
  case hc =>
    refine Att.attach_callB (l := PySem.Challenge.rw_failswhole_k96_texts_of_deeds_and_batche) (n := 63) rfl (by kernel_rfl) fun w s₀ s₁ mg mb fa o pm cd doc a vs ns G Y ho hd hcd hmg hobj hints hlen hbits hg => ?_
    obtain ⟨K, KX, c⟩ := Y
    have hm : mg ("law" : PySem.Str) = some (.ref fa) := by
      have e : (HandSHeadRun.topDef K96.R.prog 45).name = ("law" : PySem.Str) := by kernel_rfl
      rw [← e]
      exact hmg
    have tm : ∀ p ∈ K96.tf.map (He.cT K), ∃ d ∈ K96.tf, He.cT K d = p := fun p hp => List.mem_map.mp hp
    refine K96.law_called (s₀ := s₀) (mb := mb) ⟨KX, G.T.g, G.T.b, G.T.builtins, G.T.nolimit, hg, fun p hp => ?_, fun p hp => ?_, fun p hp => ?_, G.T.bmain, hobj, hints, Nat.le_trans hlen (by decide)⟩ c.t.d c.more hm
    · obtain ⟨d, h1, rfl⟩ := tm p hp
      exact c.empty d h1
    · obtain ⟨d, h1, rfl⟩ := tm p hp
      exact c.out d h1
    · obtain ⟨d, h1, rfl⟩ := tm p hp
      exact codeHd_of_K KX (c.hd d h1)

