import PyProof.Rows.All
import Wide.All
import OpenK.AllK
import Wide.FinOn
import HandS.ForMost
import HandS.IsInst
import HandS.SetFor
import HandS.Star
import HandS.AnyAll
import HandS.EndTab
import HandS.Deep
import HandS.DictTup
import HandS.Gcd
import HandS.Style
import HandS.Zip
import HandS.Wide
import HandS.TupSets
import HandS.TupAny
import KE.SortData
import KE.DataMinMax
import PySem.Challenge.RW_firstthere_k27_whole_sure_namings
import KE.GoesMore
set_option Elab.async false
set_option linter.all false
set_option maxRecDepth 100000
set_option maxHeartbeats 4000000
namespace Ft
open PySem PySem.Spec PyProof.Rows L2
/-! ### the text by places -/
def topS (i : Nat) : Stmt := PySem.Challenge.pw_firstthere_k27_whole_sure_namings.main.body.getD i (.Pass ⟨0, 0, 0, 0⟩)
abbrev sIsIn : Stmt := topS 9
theorem scIsIn : FnScope ["value", "least", "most"] ["value", "least", "most"] (defScope sIsIn) := ⟨rfl, rfl, rfl, by decide +kernel, rfl, by decide +kernel, by decide +kernel⟩
abbrev sAreDeputies : Stmt := topS 10
theorem scAreDeputies : FnScope ["value"] ["value"] (defScope sAreDeputies) := ⟨rfl, rfl, rfl, by decide +kernel, rfl, by decide +kernel, by decide +kernel⟩
abbrev sNeedDeputies : Stmt := topS 11
theorem scNeedDeputies : FnScope ["deputies"] ["deputies"] (defScope sNeedDeputies) := ⟨rfl, rfl, rfl, by decide +kernel, rfl, by decide +kernel, by decide +kernel⟩
abbrev sNeedPerson : Stmt := topS 12
theorem scNeedPerson : FnScope ["deputies", "person"] ["deputies", "person"] (defScope sNeedPerson) := ⟨rfl, rfl, rfl, by decide +kernel, rfl, by decide +kernel, by decide +kernel⟩
abbrev sChainOf : Stmt := topS 13
theorem scChainOf : FnScope ["deputies", "person", "found", "here"] ["deputies", "person"] (defScope sChainOf) := ⟨rfl, rfl, rfl, by decide +kernel, rfl, by decide +kernel, by decide +kernel⟩
abbrev sHolderOf : Stmt := topS 14
theorem scHolderOf : FnScope ["deputies", "gone", "person", "one"] ["deputies", "gone", "person"] (defScope sHolderOf) := ⟨rfl, rfl, rfl, by decide +kernel, rfl, by decide +kernel, by decide +kernel⟩
abbrev sAllHolders : Stmt := topS 15
theorem scAllHolders : FnScope ["deputies", "gone", "person"] ["deputies", "gone"] (defScope sAllHolders) := ⟨rfl, rfl, rfl, by decide +kernel, rfl, by decide +kernel, by decide +kernel⟩
abbrev sAllLots : Stmt := topS 16
theorem scAllLots : FnScope ["size", "found", "person", "lot"] ["size"] (defScope sAllLots) := ⟨rfl, rfl, rfl, by decide +kernel, rfl, by decide +kernel, by decide +kernel⟩
abbrev sAllDeputies : Stmt := topS 17
theorem scAllDeputies : FnScope ["size", "found", "person", "more", "some", "one"] ["size"] (defScope sAllDeputies) := ⟨rfl, rfl, rfl, by decide +kernel, rfl, by decide +kernel, by decide +kernel⟩
abbrev sRatio : Stmt := topS 19
theorem scRatio : FnScope ["top", "bottom", "common"] ["top", "bottom"] (defScope sRatio) := ⟨rfl, rfl, rfl, by decide +kernel, rfl, by decide +kernel, by decide +kernel⟩
abbrev sMinus : Stmt := topS 20
theorem scMinus : FnScope ["one", "other"] ["one", "other"] (defScope sMinus) := ⟨rfl, rfl, rfl, by decide +kernel, rfl, by decide +kernel, by decide +kernel⟩
abbrev sBy : Stmt := topS 21
theorem scBy : FnScope ["one", "other"] ["one", "other"] (defScope sBy) := ⟨rfl, rfl, rfl, by decide +kernel, rfl, by decide +kernel, by decide +kernel⟩
abbrev sNeedMany : Stmt := topS 23
theorem scNeedMany : FnScope ["deputies", "many"] ["deputies", "many"] (defScope sNeedMany) := ⟨rfl, rfl, rfl, by decide +kernel, rfl, by decide +kernel, by decide +kernel⟩
abbrev sLotsOf : Stmt := topS 24
theorem scLotsOf : FnScope ["deputies", "many", "lot"] ["deputies", "many"] (defScope sLotsOf) := ⟨rfl, rfl, rfl, by decide +kernel, rfl, by decide +kernel, by decide +kernel⟩
abbrev sNeedFew : Stmt := topS 27
theorem scNeedFew : FnScope ["size"] ["size"] (defScope sNeedFew) := ⟨rfl, rfl, rfl, by decide +kernel, rfl, by decide +kernel, by decide +kernel⟩
abbrev sUnlike : Stmt := topS 29
theorem scUnlike : FnScope ["one", "other", "first", "second"] ["one", "other"] (defScope sUnlike) := ⟨rfl, rfl, rfl, by decide +kernel, rfl, by decide +kernel, by decide +kernel⟩
abbrev sNeedNumber : Stmt := topS 31
theorem scNeedNumber : FnScope ["value", "least", "most"] ["value", "least", "most"] (defScope sNeedNumber) := ⟨rfl, rfl, rfl, by decide +kernel, rfl, by decide +kernel, by decide +kernel⟩
abbrev sPowered : Stmt := topS 32
theorem scPowered : FnScope ["base", "many", "found", "turn"] ["base", "many"] (defScope sPowered) := ⟨rfl, rfl, rfl, by decide +kernel, rfl, by decide +kernel, by decide +kernel⟩
abbrev sChoices : Stmt := topS 33
theorem scChoices : FnScope ["whole", "part", "found", "k"] ["whole", "part"] (defScope sChoices) := ⟨rfl, rfl, rfl, by decide +kernel, rfl, by decide +kernel, by decide +kernel⟩
abbrev sShortest : Stmt := topS 37
theorem scShortest : FnScope ["deputies", "person"] ["deputies"] (defScope sShortest) := ⟨rfl, rfl, rfl, by decide +kernel, rfl, by decide +kernel, by decide +kernel⟩
abbrev sLeastChain : Stmt := topS 38
theorem scLeastChain : FnScope ["deputies"] ["deputies"] (defScope sLeastChain) := ⟨rfl, rfl, rfl, by decide +kernel, rfl, by decide +kernel, by decide +kernel⟩
abbrev sSurest : Stmt := topS 39
theorem scSurest : FnScope ["deputies"] ["deputies"] (defScope sSurest) := ⟨rfl, rfl, rfl, by decide +kernel, rfl, by decide +kernel, by decide +kernel⟩
abbrev sLongRounds : Stmt := topS 40
theorem scLongRounds : FnScope ["size", "many", "found", "whole", "total", "first", "part", "k"] ["size", "many"] (defScope sLongRounds) := ⟨rfl, rfl, rfl, by decide +kernel, rfl, by decide +kernel, by decide +kernel⟩
abbrev sSureCount : Stmt := topS 41
theorem scSureCount : FnScope ["size", "many", "rings", "found", "inner", "rest"] ["size", "many"] (defScope sSureCount) := ⟨rfl, rfl, rfl, by decide +kernel, rfl, by decide +kernel, by decide +kernel⟩
abbrev sFewestOf : Stmt := topS 42
theorem scFewestOf : FnScope ["deputies", "many", "some", "one"] ["deputies", "many"] (defScope sFewestOf) := ⟨rfl, rfl, rfl, by decide +kernel, rfl, by decide +kernel, by decide +kernel⟩
abbrev sNeedSure : Stmt := topS 43
theorem scNeedSure : FnScope ["deputies", "many"] ["deputies", "many"] (defScope sNeedSure) := ⟨rfl, rfl, rfl, by decide +kernel, rfl, by decide +kernel, by decide +kernel⟩
abbrev sFewestSure : Stmt := topS 44
theorem scFewestSure : FnScope ["deputies", "many"] ["deputies", "many"] (defScope sFewestSure) := ⟨rfl, rfl, rfl, by decide +kernel, rfl, by decide +kernel, by decide +kernel⟩
abbrev sShowsFewestSure : Stmt := topS 45
theorem scShowsFewestSure : FnScope ["deputies", "many", "value", "best"] ["deputies", "many", "value"] (defScope sShowsFewestSure) := ⟨rfl, rfl, rfl, by decide +kernel, rfl, by decide +kernel, by decide +kernel⟩
abbrev sSpread : Stmt := topS 46
theorem scSpread : FnScope ["deputies", "many", "some", "mean", "lot"] ["deputies", "many"] (defScope sSpread) := ⟨rfl, rfl, rfl, by decide +kernel, rfl, by decide +kernel, by decide +kernel⟩
abbrev sBothOut : Stmt := topS 47
theorem scBothOut : FnScope ["deputies", "many", "one", "other", "some", "out", "lot"] ["deputies", "many", "one", "other"] (defScope sBothOut) := ⟨rfl, rfl, rfl, by decide +kernel, rfl, by decide +kernel, by decide +kernel⟩
abbrev sLawTaken : Stmt := topS 49
theorem scLawTaken : FnScope ["_law_row", "_law_many", "_law_found", "_law_cell"] ["_law_row", "_law_many"] (defScope sLawTaken) := ⟨rfl, rfl, rfl, by decide +kernel, rfl, by decide +kernel, by decide +kernel⟩
abbrev sLawAlike : Stmt := topS 51
theorem scLawAlike : FnScope ["_law_found", "_law_due", "_law_k"] ["_law_found", "_law_due"] (defScope sLawAlike) := ⟨rfl, rfl, rfl, by decide +kernel, rfl, by decide +kernel, by decide +kernel⟩
abbrev sLawRatio : Stmt := topS 52
theorem scLawRatio : FnScope ["_law_top", "_law_bottom", "_law_one", "_law_other"] ["_law_top", "_law_bottom"] (defScope sLawRatio) := ⟨rfl, rfl, rfl, by decide +kernel, rfl, by decide +kernel, by decide +kernel⟩
abbrev sLawPlus : Stmt := topS 53
theorem scLawPlus : FnScope ["_law_one", "_law_other"] ["_law_one", "_law_other"] (defScope sLawPlus) := ⟨rfl, rfl, rfl, by decide +kernel, rfl, by decide +kernel, by decide +kernel⟩
abbrev sLawBy : Stmt := topS 54
theorem scLawBy : FnScope ["_law_one", "_law_other"] ["_law_one", "_law_other"] (defScope sLawBy) := ⟨rfl, rfl, rfl, by decide +kernel, rfl, by decide +kernel, by decide +kernel⟩
abbrev sLawDeputies : Stmt := topS 58
theorem scLawDeputies : FnScope ["_law_row", "_law_size", "_law_found", "_law_person", "_law_one"] ["_law_row", "_law_size"] (defScope sLawDeputies) := ⟨rfl, rfl, rfl, by decide +kernel, rfl, by decide +kernel, by decide +kernel⟩
abbrev sLawChain : Stmt := topS 60
theorem scLawChain : FnScope ["_law_deputies_here", "_law_person", "_law_found", "_law_turn"] ["_law_deputies_here", "_law_person"] (defScope sLawChain) := ⟨rfl, rfl, rfl, by decide +kernel, rfl, by decide +kernel, by decide +kernel⟩
abbrev sLawHolder : Stmt := topS 61
theorem scLawHolder : FnScope ["_law_deputies_here", "_law_gone", "_law_person", "_law_here", "_law_seen", "_law_turn"] ["_law_deputies_here", "_law_gone", "_law_person"] (defScope sLawHolder) := ⟨rfl, rfl, rfl, by decide +kernel, rfl, by decide +kernel, by decide +kernel⟩
abbrev sLawHolders : Stmt := topS 62
theorem scLawHolders : FnScope ["_law_deputies_here", "_law_gone", "_law_k"] ["_law_deputies_here", "_law_gone"] (defScope sLawHolders) := ⟨rfl, rfl, rfl, by decide +kernel, rfl, by decide +kernel, by decide +kernel⟩
abbrev sLawLots : Stmt := topS 63
theorem scLawLots : FnScope ["_law_size", "_law_found", "_law_person", "_law_lot_here"] ["_law_size"] (defScope sLawLots) := ⟨rfl, rfl, rfl, by decide +kernel, rfl, by decide +kernel, by decide +kernel⟩
abbrev sLawEvery : Stmt := topS 67
theorem scLawEvery : FnScope ["_law_size", "_law_found", "_law_person", "_law_more", "_law_some", "_law_one"] ["_law_size"] (defScope sLawEvery) := ⟨rfl, rfl, rfl, by decide +kernel, rfl, by decide +kernel, by decide +kernel⟩
abbrev sLaw : Stmt := topS 68
theorem scLaw : FnScope ["_law_script", "_law_row", "_law_size", "_law_deputies_here", "_law_every_here", "_law_lots_here", "_law_many", "_law_one", "_law_other", "_law_out", "_law_each", "_law_bad", "_law_few", "_law_good", "_law_changes", "_law_best", "_law_found", "_law_last", "_law_value", "_law_due", "_law_held", "_law_counts", "_law_mean", "_law_square", "_law_both", "_law_lot_here", "_law_k"] ["_law_script"] (defScope sLaw) := ⟨rfl, rfl, rfl, by decide +kernel, rfl, by decide +kernel, by decide +kernel⟩
/-! ### heaps: what stood, stands; a code's table may have grown -/
structure Ext (H H' : Hp) : Prop where
  keep : ∀ b o, H b = some o → (∀ ps, o ≠ .tbl ps) → H' b = some o
  tab : ∀ b, GxR.TabG H b → GxR.TabG H' b
  free : ∀ b, H' b = none → H b = none
theorem Ext.refl (H : Hp) : Ext H H := ⟨fun _ _ h _ => h, fun _ h => h, fun _ h => h⟩
theorem Ext.trans {H H1 H2 : Hp} (a : Ext H H1) (b : Ext H1 H2) : Ext H H2 :=
  ⟨fun c o h n => b.keep c o (a.keep c o h n) n, fun c h => b.tab c (a.tab c h), fun c h => a.free c (b.free c h)⟩
theorem tabG_ne {H : Hp} {p P : Addr} (h : H p = none) (t : GxR.TabG H P) : P ≠ p := by
  obtain ⟨ps, e, _⟩ := t
  exact ne_of_none e h
theorem Ext.new {H : Hp} {p : Addr} {o : HO} (h : H p = none) : Ext H (upd H p o) :=
  ⟨fun b u e _ => by rw [upd_ne (ne_of_none e h)]; exact e, fun b t => by
    obtain ⟨ps, e, k⟩ := t
    exact ⟨ps, by rw [upd_ne (ne_of_none e h)]; exact e, k⟩, fun b e => by
    by_cases hb : b = p
    · rw [hb]; exact h
    · rw [upd_ne hb] at e; exact e⟩
/-- what H knows nothing of may be changed -/
theorem Ext.mut {H H' : Hp} {p : Addr} {o : HO} (x : Ext H H') (h : H p = none) : Ext H (upd H' p o) :=
  ⟨fun b u e n => by rw [upd_ne (ne_of_none e h)]; exact x.keep b u e n, fun b t => by
    obtain ⟨ps, e, k⟩ := x.tab b t
    exact ⟨ps, by rw [upd_ne (tabG_ne h t)]; exact e, k⟩, fun b e => by
    by_cases hb : b = p
    · rw [hb]; exact h
    · rw [upd_ne hb] at e; exact x.free b e⟩
theorem Ext.of_tabbed {H H' : Hp} {P : Addr} (t : GxR.TabG H P) (x : GxR.Tabbed P H H') : Ext H H' := by
  obtain ⟨t', k⟩ := x
  obtain ⟨ps, e, _⟩ := id t
  refine ⟨fun b o h n => ?_, fun b h => ?_, fun b h => ?_⟩
  · have hb : b ≠ P := fun z => by
      rw [z, e] at h
      exact n ps (Option.some.inj h).symm
    rw [k b hb]; exact h
  · by_cases hb : b = P
    · rw [hb]; exact t'
    · obtain ⟨qs, e2, k2⟩ := h
      exact ⟨qs, by rw [k b hb]; exact e2, k2⟩
  · by_cases hb : b = P
    · obtain ⟨qs, e2, _⟩ := t'
      rw [hb, e2] at h
      cases h
    · rw [k b hb] at h; exact h
section
variable {K : PySem.W.Frag} {H H' : Hp} {a t : Addr} {xs : List V}
theorem Ext.lst (e : Ext H H') (h : H a = some (.lst xs)) : H' a = some (.lst xs) := e.keep _ _ h (fun _ z => nomatch z)
theorem Ext.tup (e : Ext H H') (h : H a = some (.tup xs)) : H' a = some (.tup xs) := e.keep _ _ h (fun _ z => nomatch z)
theorem Ext.seq (e : Ext H H') (h : SqL K H a xs) : SqL K H' a xs := by
  rcases h with (h | ⟨o, h⟩) | h
  · exact .inl (.inl (e.lst h))
  · exact .inl (.inr ⟨o, e.keep _ _ h (fun _ z => nomatch z)⟩)
  · exact .inr h
theorem Ext.sqt (e : Ext H H') (h : SqT K H a xs) : SqT K H' a xs := by
  rcases h with (h | ⟨o, h⟩) | h
  · exact .inl (.inl (e.tup h))
  · exact .inl (.inr ⟨o, e.keep _ _ h (fun _ z => nomatch z)⟩)
  · exact .inr h
end
theorem sz {n : Nat} (h : n ≤ 1000) : n ≤ sizeLine := Nat.le_trans h (by decide)
theorem szl {n : Nat} (h : n ≤ 1000) : n < sizeLine := Nat.lt_of_le_of_lt h (by decide)
theorem sq_len {K : PySem.W.Frag} {H : Hp} {a : Addr} {xs : List V} : True := trivial
/-- a tuple of ints -/
def TI (K : PySem.W.Frag) (H : Hp) (v : V) (ns : List Int) : Prop := ∃ t, v = .ref t ∧ SqT K H t (ns.map V.int)
theorem TI.mono {K : PySem.W.Frag} {H H' : Hp} {v : V} {ns : List Int} (h : TI K H v ns) (e : Ext H H') : TI K H' v ns := by
  obtain ⟨t, r, h⟩ := h
  exact ⟨t, r, e.sqt h⟩
theorem get_map {ns : List Int} {i : Nat} {x : V} (h : (ns.map V.int)[i]? = some x) : ∃ n, ns[i]? = some n ∧ x = .int n := by
  rw [List.getElem?_map] at h
  cases e : ns[i]? with
  | none => rw [e] at h; cases h
  | some n => rw [e] at h; exact ⟨n, rfl, (Option.some.inj h).symm⟩
theorem map_get {ns : List Int} {i : Nat} {n : Int} (h : ns[i]? = some n) : (ns.map V.int)[i]? = some (.int n) := by
  rw [List.getElem?_map, h]; rfl
theorem flat_ints (ns : List Int) : (ns.map V.int).all flatV = true := by
  rw [List.all_eq_true]
  intro x hx
  obtain ⟨n, _, rfl⟩ := List.mem_map.mp hx
  rfl
end Ft
namespace Ft
open PySem PySem.Spec PyProof.Rows L2
/-! ### what the top leaves of the names -/
structure Bt (mg : Str → Option Value) : Prop where
  isinstance : mg "isinstance" = none
  int : mg "int" = none
  bool : mg "bool" = none
  len : mg "len" = none
  range : mg "range" = none
  sorted : mg "sorted" = none
  all : mg "all" = none
  enumerate : mg "enumerate" = none
  min : mg "min" = none
  sum : mg "sum" = none
  list : mg "list" = none
  tuple : mg "tuple" = none
  zip : mg "zip" = none
  str : mg "str" = none
  abs : mg "abs" = none
/-- the def x of the text stands where its name says -/
def Df (K : PySem.W.Frag) (mg : Str → Option Value) (x : Str) (st : Stmt) (ps : List Str) : Prop := ∃ f fd, Fun K x x st f fd ∧ Binds K fd ps [] ∧ mg x = some (.ref f)
/-- the def x keeps the promise sp -/
def Cal (P : Program) (w : World) (K : PySem.W.Frag) (mg : Str → Option Value) (base : Heap) (k : Nat) (x : Str) (ps : List Str) (sp : Sp) : Prop :=
  ∃ f fd, FnOk P w K mg base CX0 k f fd ps sp ∧ mg x = some (.ref f) ∧ PySem.W.keepIn K (.ref f) = true ∧ Binds K fd ps []
theorem Df.ok {P : Program} {w : World} {K : PySem.W.Frag} {mg : Str → Option Value} {base : Heap} {x : Str} {st : Stmt} {N ps : List Str} {k : Nat} {sp : Sp} (D : Df K mg x st ps) (S : FnScope N ps (defScope st)) (len : ∀ vs H Q E, sp vs H Q E → vs.length = ps.length)
    (hbody : ∀ (f : Addr) (cdv : Value) (A : Around) (outer : List Env) (s : Shared) (H : Hp) (vs : List V) (Q : VK) (E : XK), Room k (A.deeper (envOfC x (defScope st) s.heap.objs.size f cdv)) → sp vs H Q E →
      ∃ t, PSs (cxOf CX0 P w K mg base N x (defScope st) f cdv A outer s H E).nox (defBody st) t ∧ t { nx := fun _ H' => Q .non H', rt := Q } (start N vs) H) : Cal P w K mg base (k + 1) x ps sp := by
  obtain ⟨f, fd, F, b, g⟩ := D
  exact ⟨f, fd, F.ok S len (hbody f), g, F.kp, b⟩
def tCl (sp : Sp) (t : TA) : TE := fun σ H Q => t σ H fun vs H1 => sp vs H1 Q E0
theorem pe_c {X : Cx} {x : Str} {p pos : Pos} {e : Expr} {es : List Expr} {t : TA} {k : Nat} {ps : List Str} {sp : Sp} (C : Cal X.prog X.w X.K X.mg X.base k x ps sp) (hr : Room k X.A) (hg : Gl X x) (ha : PA X (e :: es) t) (hdb : (x == ("__debug__" : Str)) = false := by decide)
    (he : starEach (e :: es) X.env = (false, eval e X.env) :: starEach es X.env := by rfl) (hpl : (backTo pos (starEach es X.env)).any (·.1) = false := by rfl) :
    PE X (.Call (.Name x p) (e :: es) [] pos) (tCl sp t) := by
  obtain ⟨f, fd, F, g, kp, b⟩ := C
  refine ⟨fun pins s σ H Q I h => ?_⟩
  exact (pe_call (E := E0) F hr hg g kp b .nil pass0 ha hdb he hpl).run pins s σ H Q I (by
    show t σ H fun vs H1 => sp (vs ++ []) H1 Q E0
    simp only [List.append_nil]
    exact h)
/-! ### kinds -/
section
variable {K : PySem.W.Frag} {H : Hp} {a t : Addr} {xs : List V}
theorem tyx_tup (h : SqT K H t xs) : TyX K H (.ref t) (.type "tuple") := by
  rcases h with (h | ⟨o, h⟩) | ⟨o, its, n, hk, hc, _⟩
  · exact .base (.tup h)
  · exact .fTuple h
  · exact .kTuple hk hc
theorem tyx_lst (h : SqL K H a xs) : TyX K H (.ref a) (.type "list") := by
  rcases h with (h | ⟨o, h⟩) | ⟨o, its, n, hk, hc, _⟩
  · exact .base (.lst h)
  · exact .base (.frz h)
  · exact .kList hk hc
end
/-! ### is_in -/
def spIsIn : Sp := fun vs H Q _ => ∃ v lo hi : Int, vs = [.int v, .int lo, .int hi] ∧ Q (.bl (decide (lo ≤ v) && decide (v ≤ hi))) H
section
variable {P : Program} {w : World} {K : PySem.W.Frag} {mg : Str → Option Value} {base : Heap}
theorem ok_isIn (B : Bt mg) (D : Df K mg "is_in" sIsIn ["value", "least", "most"]) : Cal P w K mg base 1 "is_in" ["value", "least", "most"] spIsIn := by
  refine D.ok scIsIn (fun vs H Q E h => ?_) (fun f cdv A outer s H vs Q E hr h => ?_)
  · obtain ⟨v, lo, hi, rfl, _⟩ := h
    rfl
  · obtain ⟨v, lo, hi, rfl, q⟩ := h
    refine ⟨_, pss_one (ps_ret (pe_and (pe_callB call_isi (by rfl) B.isinstance PyProof.Rows.boot_isinstance (pa_cons (pv 0) (pa_cons (pe_bltn (v := .ty "int") (by rfl) B.int boot_int rfl) pa_nil)))
      (pe_and (pe_not (pe_callB call_isi (by rfl) B.isinstance PyProof.Rows.boot_isinstance (pa_cons (pv 0) (pa_cons (pe_bltn (v := .ty "bool") (by rfl) B.bool boot_bool rfl) pa_nil))))
      (pe_one (pe_chain op_le op_le (pv 1) (pv 0) (pv 2)))))), ?_⟩
    refine ⟨.int v, rfl, .int v, .ty "int", .type "int", .type "int", true, rfl, .ty _, .base (.int _), kit_ty (by decide +kernel), true, rfl, iteT ?_⟩
    refine ⟨.int v, rfl, .int v, .ty "bool", .type "int", .type "bool", false, rfl, .ty _, .base (.int _), kit_ty (by decide +kernel), false, rfl, true, rfl, iteT ?_⟩
    refine ⟨.int lo, rfl, .int v, rfl, lo, v, rfl, rfl, decide (lo ≤ v), rfl, ?_⟩
    by_cases h1 : lo ≤ v
    · rw [decide_eq_true h1] at q ⊢
      refine iteT ⟨.int hi, rfl, v, hi, rfl, rfl, ?_⟩
      rw [Bool.true_and] at q
      exact q
    · rw [decide_eq_false h1] at q ⊢
      exact iteF q
end
/-! ### chain_of -/
def chainRun (d : List Int) : Nat → List Int → Int → Option (List Int)
  | 0, _, _ => none
  | f + 1, found, here => if here = -1 ∨ here ∈ found then some found else if here < 0 then none else
    match d[here.toNat]? with
    | some nx => chainRun d f (found ++ [here]) nx
    | none => none
def spChainOf (K : PySem.W.Frag) : Sp := fun vs H Q _ => ∃ (t : Addr) (d : List Int) (p : Int) (r : List Int), vs = [.ref t, .int p] ∧ SqT K H t (d.map V.int) ∧ chainRun d 5 [] p = some r ∧
  ∀ H' l, Ext H H' → H l = none → H' l = some (.lst (r.map V.int)) → Q (.ref l) H'
theorem inV_ints (x : Int) (ns : List Int) : inV (.int x) (ns.map V.int) = decide (x ∈ ns) := by
  induction ns with
  | nil => rfl
  | cons y r ih =>
    show (eqV (.int y) (.int x) || inV (.int x) (r.map V.int)) = _
    rw [ih]
    by_cases e : y = x
    · subst e
      simp [eqV]
    · have e' : ¬ x = y := fun z => e z.symm
      simp [eqV, e, e']
section
variable {P : Program} {w : World} {K : PySem.W.Frag} {mg : Str → Option Value} {base : Heap}
theorem ok_chainOf (D : Df K mg "chain_of" sChainOf ["deputies", "person"]) : Cal P w K mg base 1 "chain_of" ["deputies", "person"] (spChainOf K) := by
  refine D.ok scChainOf (fun vs H Q E h => ?_) (fun f cdv A outer s H vs Q E hr h => ?_)
  · obtain ⟨t, d, p, r, rfl, _⟩ := h
    rfl
  · obtain ⟨t, d, p, r, rfl, hT, hc, q⟩ := h
    refine ⟨_, pss_cons (ps_par (i := 2) (j := 3) (by rfl) scChainOf.nd rfl rfl (by decide) rfl rfl (pa_cons (pe_lst pa_nil) (pa_cons (pv 1) pa_nil)) (by rfl))
      (pss_cons (ps_while PassesOwn.never (PW.pt (pw_and (pt_cmpR op_ne (pv 3) (pe_un un_neg pe_int) (nomark _)) (pw_and1 (pt_cmpR op_notIn_seq (pv 3) (pv 2) (by rfl)))))
        (pss_cons (ps_expr (pe_bm PySem.F.plainAttrs_list PySem.F.slot_list_append PySem.F.type_list_append mt_append (pv 2) (pa_cons (pv 3) pa_nil)))
        (pss_one (ps_set (i := 3) scChainOf.nd rfl (.inl rfl) (pe_ix ix_tup (pv 0) (pv 3) (fun _ _ => rfl))))))
      (pss_one (ps_ret (pv 2)))), ?_⟩
    refine ⟨Nat.zero_le _, fun l nl => ⟨.int p, rfl, .ref l, .int p, rfl, ?_⟩⟩
    refine ⟨fun m σ H' => ∃ (fd : List Int) (here : Int), σ = [some (.ref t), some (.int p), some (.ref l), some (.int here)] ∧ Ext H H' ∧ H' l = some (.lst (fd.map V.int)) ∧ chainRun d m fd here = some r ∧ fd.length + m ≤ 5,
      ⟨5, [], p, rfl, Ext.new nl, upd_same, hc, Nat.le_refl _⟩, fun m σ H1 hW => ?_⟩
    obtain ⟨fd, here, rfl, e1, hl, hrun, hm⟩ := hW
    refine ⟨.int here, rfl, 1, rfl, rfl, _, rfl, ?_⟩
    cases m with
    | zero => cases hrun
    | succ m =>
      unfold chainRun at hrun
      by_cases h1 : here = -1
      · subst h1
        rw [if_pos (Or.inl rfl)] at hrun
        cases hrun
        refine iteF (iteF ⟨.ref l, rfl, q _ l e1 nl hl⟩)
      · have n1 : (!decide (V.int here = V.int (-1))) = true := by
          rw [decide_eq_false (fun z => h1 (V.int.inj z))]
          rfl
        rw [n1]
        refine iteT ⟨.int here, rfl, .ref l, rfl, l, fd.map V.int, rfl, .inl (SqL.of hl), rfl, flat_ints _, !(inV (.int here) (fd.map V.int)), rfl, ?_⟩
        rw [inV_ints]
        by_cases h2 : here ∈ fd
        · rw [if_pos (Or.inr h2)] at hrun
          cases hrun
          rw [decide_eq_true h2]
          exact iteF ⟨.ref l, rfl, q _ l e1 nl hl⟩
        · rw [if_neg (fun z => z.elim h1 h2)] at hrun
          rw [decide_eq_false h2]
          by_cases h3 : here < 0
          · rw [if_pos h3] at hrun
            cases hrun
          · rw [if_neg h3] at hrun
            cases hg : d[here.toNat]? with
            | none => rw [hg] at hrun; cases hrun
            | some nx =>
              rw [hg] at hrun
              refine iteT ⟨fun σ' H' => ∃ (fd : List Int) (here : Int), σ' = [some (.ref t), some (.int p), some (.ref l), some (.int here)] ∧ Ext H H' ∧ H' l = some (.lst (fd.map V.int)) ∧ chainRun d m fd here = some r ∧ fd.length + m ≤ 5,
                fun σ' H' hN => ⟨m, Nat.lt_succ_self m, hN⟩, ?_⟩
              refine ⟨.ref l, rfl, .inl ⟨rfl, _, SqL.of hl⟩, .int here, rfl, l, _, _, rfl, rfl, hl, szl (by rw [List.length_map]; omega), ?_⟩
              refine ⟨.ref t, rfl, .int here, rfl, t, d.map V.int, here, .int nx, rfl, rfl, (e1.mut nl).sqt hT, ?_, ?_⟩
              · rw [show here = ((here.toNat : Nat) : Int) by omega]
                exact atI_nat (map_get hg)
              · refine ⟨fd ++ [here], nx, rfl, e1.mut nl, ?_, hrun, ?_⟩
                · rw [upd_same, List.map_append]
                  rfl
                · rw [List.length_append, List.length_singleton]
                  omega
end
end Ft
namespace Ft
open PySem PySem.Spec PyProof.Rows L2
/-! ### one address left out -/
def hid (D : Addr) (H : Hp) : Hp := fun b => if b = D then none else H b
theorem hid_ne {D b : Addr} {H : Hp} (h : b ≠ D) : hid D H b = H b := by unfold hid; rw [if_neg h]
theorem hid_same {D : Addr} {H : Hp} : hid D H D = none := by unfold hid; rw [if_pos rfl]
theorem hid_upd {D : Addr} {H : Hp} {o : HO} : hid D (upd H D o) = hid D H := by
  funext b
  unfold hid upd
  by_cases h : b = D
  · rw [if_pos h, if_pos h]
  · rw [if_neg h, if_neg h, if_neg h]
theorem hid_of {D b : Addr} {H : Hp} {o : HO} (h : hid D H b = some o) : b ≠ D ∧ H b = some o := by
  by_cases hb : b = D
  · rw [hb, hid_same] at h; cases h
  · rw [hid_ne hb] at h; exact ⟨hb, h⟩
theorem Ext.hidden {H H' : Hp} (D : Addr) (e : Ext H H') : Ext (hid D H) (hid D H') := by
  refine ⟨fun b o h n => ?_, fun b h => ?_, fun b h => ?_⟩
  · obtain ⟨hb, h⟩ := hid_of h
    rw [hid_ne hb]
    exact e.keep b o h n
  · obtain ⟨ps, h, k⟩ := h
    obtain ⟨hb, h⟩ := hid_of h
    obtain ⟨qs, h2, k2⟩ := e.tab b ⟨ps, h, k⟩
    exact ⟨qs, by rw [hid_ne hb]; exact h2, k2⟩
  · by_cases hb : b = D
    · rw [hb]; exact hid_same
    · rw [hid_ne hb] at h ⊢; exact e.free b h
theorem ext_hid (D : Addr) (H : Hp) : Ext (hid D H) H := by
  refine ⟨fun b o h n => (hid_of h).2, fun b h => ?_, fun b h => ?_⟩
  · obtain ⟨ps, h, k⟩ := h
    exact ⟨ps, (hid_of h).2, k⟩
  · by_cases hb : b = D
    · rw [hb]; exact hid_same
    · rw [hid_ne hb]; exact h
/-- an object that H does not know: H is below it, with that object left out -/
theorem Ext.to_hid {H H' : Hp} {D : Addr} (e : Ext H H') (h : H D = none) : Ext H (hid D H') := by
  refine ⟨fun b o q n => ?_, fun b q => ?_, fun b q => ?_⟩
  · rw [hid_ne (ne_of_none q h)]; exact e.keep b o q n
  · obtain ⟨ps, q2, k⟩ := e.tab b q
    exact ⟨ps, by rw [hid_ne (tabG_ne h q)]; exact q2, k⟩
  · by_cases hb : b = D
    · rw [hb]; exact h
    · rw [hid_ne hb] at q; exact e.free b q
theorem TI.hidden {K : PySem.W.Frag} {H : Hp} {D : Addr} {v : V} {ns : List Int} {xs : List V} (h : TI K H v ns) (hD : H D = some (.lst xs)) : TI K (hid D H) v ns := by
  obtain ⟨t, r, h⟩ := h
  refine ⟨t, r, ?_⟩
  rcases h with (h | ⟨o, h⟩) | h
  · exact .inl (.inl (by rw [hid_ne (fun z => by rw [z, hD] at h; cases h)]; exact h))
  · exact .inl (.inr ⟨o, by rw [hid_ne (fun z => by rw [z, hD] at h; cases h)]; exact h⟩)
  · exact .inr h
/-! ### a comprehension's turns: which of them give something -/
/-- a relation of a turn, a value, a heap, that a grown heap keeps -/
def Mono (R : Nat → V → Hp → Prop) : Prop := ∀ i y H H', R i y H → Ext H H' → R i y H'
def Cw (H : Hp) (b : Nat → Bool) (R : Nat → V → Hp → Prop) (D : Addr) (i : Nat) (H' : Hp) : Prop :=
  H D = none ∧ Ext H H' ∧ ∃ ys, H' D = some (.lst ys) ∧ Paired (fun k y => R k y (hid D H')) ((List.range i).filter b) ys ∧ ys.length ≤ i
theorem Cw.zero {H : Hp} {b : Nat → Bool} {R : Nat → V → Hp → Prop} {D : Addr} (h : H D = none) : Cw H b R D 0 (upd H D (.lst [])) := ⟨h, Ext.new h, [], upd_same, .nil, Nat.le_refl _⟩
theorem cw_turn {H H' : Hp} {b : Nat → Bool} {R : Nat → V → Hp → Prop} {D : Addr} {i : Nat} {σ2 : L2.St} {tt : TT} {te : TE} (mono : Mono R) (p : Cw H b R D i H') (hi : i < 1000)
    (ht : ∀ H', Ext H H' → ∀ Q : Bool → Hp → Prop, (∀ H4, Ext H' H4 → Q (b i) H4) → tt σ2 H' Q) (he : ∀ H', Ext H H' → (∃ acc, H' D = some (.lst acc)) → b i = true → ∀ Q : VK, (∀ y H4, Ext H' H4 → R i y (hid D H4) → Q y H4) → te σ2 H' Q) :
    tt σ2 H' fun c H3 => if c = true then te σ2 H3 fun y H4 => ∃ acc, H4 D = some (.lst acc) ∧ acc.length < sizeLine ∧ Cw H b R D (i + 1) (upd H4 D (.lst (acc ++ [y]))) else Cw H b R D (i + 1) H3 := by
  obtain ⟨p1, p2, ys, p3, p4, p5⟩ := p
  refine ht H' p2 _ fun H3 e3 => ?_
  have hr : ∀ H4, Ext H' H4 → Paired (fun k y => R k y (hid D H4)) ((List.range i).filter b) ys := fun H4 e4 => L2.Paired.mapP p4 fun k y r => mono k y _ _ r (e4.hidden D)
  cases hb : b i with
  | true =>
    refine iteT (he H3 (p2.trans e3) ⟨ys, e3.lst p3⟩ hb _ fun y H4 e4 r => ⟨ys, e4.lst (e3.lst p3), szl (by omega), p1, ((p2.trans e3).trans e4).mut p1, ys ++ [y], upd_same, ?_, by rw [List.length_append, List.length_singleton]; omega⟩)
    rw [List.range_succ, List.filter_append, List.filter_cons, if_pos hb, hid_upd]
    exact Paired.snoc (hr H4 (e3.trans e4)) r
  | false =>
    refine iteF ⟨p1, p2.trans e3, ys, e3.lst p3, ?_, by omega⟩
    rw [List.range_succ, List.filter_append, List.filter_cons, if_neg (by rw [hb]; decide)]
    show Paired _ (List.filter b (List.range i) ++ []) ys
    rw [List.append_nil]
    exact hr H3 e3
section
variable {K : PySem.W.Frag} {σ : L2.St} {H1 : Hp} {tt : TT} {te : TE} {vs : List Nat} {j : Nat} {D : Addr} {Qd : Hp → Prop}
/-- the end: the new list at D -/
def CwEnd (H1 : Hp) (D : Addr) (n : Nat) (b : Nat → Bool) (R : Nat → V → Hp → Prop) (Qd : Hp → Prop) : Prop :=
  ∀ H' ys, Ext H1 H' → H' D = some (.lst ys) → Paired (fun k y => R k y (hid D H')) ((List.range n).filter b) ys → Qd H'
theorem lc_rng {lo : Int} {n : Nat} (b : Nat → Bool) (R : Nat → V → Hp → Prop) (mono : Mono R) (hn : n ≤ 1000) (nD : H1 D = none) (hw : ∀ x, wipe ((wipe σ vs).set j (some x)) vs = wipe σ vs)
    (ht : ∀ (i : Nat) H', i < n → Ext H1 H' → ∀ Q : Bool → Hp → Prop, (∀ H4, Ext H' H4 → Q (b i) H4) → tt ((wipe σ vs).set j (some (.int (lo + i)))) H' Q)
    (he : ∀ (i : Nat) H', i < n → Ext H1 H' → (∃ acc, H' D = some (.lst acc)) → b i = true → ∀ Q : VK, (∀ y H4, Ext H' H4 → R i y (hid D H4) → Q y H4) → te ((wipe σ vs).set j (some (.int (lo + i)))) H' Q)
    (hd : CwEnd H1 D n b R Qd) :
    ∃ W : Nat → Nat → Hp → Prop, (∃ m, W 0 m (upd H1 D (.lst []))) ∧ ∀ i m H, W i m H →
      ((Itr lo n).stop i H ∧ Qd H) ∨ ((Itr lo n).go i H ∧ ∃ Nx : Hp → Prop, (∀ H', Nx H' → ∃ m', m' < m ∧ W (i + 1) m' H') ∧ ∀ x H', (Itr lo n).yld i H x H' → gName j x (wipe σ vs) H' fun σ2 H2 => wipe σ2 vs = wipe σ vs ∧ tt σ2 H2 fun b H3 =>
        if b = true then te σ2 H3 fun y H4 => ∃ acc, H4 D = some (.lst acc) ∧ acc.length < sizeLine ∧ Nx (upd H4 D (.lst (acc ++ [y]))) else Nx H3) :=
  lc_range (lo := lo) (n := n) (g := gName j) (Cw H1 b R D) (Cw.zero nD) (fun i H' hi p => ⟨hw _, cw_turn mono p (by omega) (fun H' e => ht i H' hi e) (fun H' e a hb => he i H' hi e a hb)⟩)
    (fun H' p => by obtain ⟨_, e, ys, h1, h2, _⟩ := p; exact hd H' ys e h1 h2)
theorem lc_lst {a : Addr} {xs : List V} (b : Nat → Bool) (R : Nat → V → Hp → Prop) (mono : Mono R) (hn : xs.length ≤ 1000) (hx : SqL K H1 a xs) (nD : H1 D = none) (hw : ∀ x, wipe ((wipe σ vs).set j (some x)) vs = wipe σ vs)
    (ht : ∀ (i : Nat) (x : V) H', xs[i]? = some x → Ext H1 H' → ∀ Q : Bool → Hp → Prop, (∀ H4, Ext H' H4 → Q (b i) H4) → tt ((wipe σ vs).set j (some x)) H' Q)
    (he : ∀ (i : Nat) (x : V) H', xs[i]? = some x → Ext H1 H' → (∃ acc, H' D = some (.lst acc)) → b i = true → ∀ Q : VK, (∀ y H4, Ext H' H4 → R i y (hid D H4) → Q y H4) → te ((wipe σ vs).set j (some x)) H' Q)
    (hd : CwEnd H1 D xs.length b R Qd) :
    ∃ W : Nat → Nat → Hp → Prop, (∃ m, W 0 m (upd H1 D (.lst []))) ∧ ∀ i m H, W i m H →
      ((Itl K a).stop i H ∧ Qd H) ∨ ((Itl K a).go i H ∧ ∃ Nx : Hp → Prop, (∀ H', Nx H' → ∃ m', m' < m ∧ W (i + 1) m' H') ∧ ∀ x H', (Itl K a).yld i H x H' → gName j x (wipe σ vs) H' fun σ2 H2 => wipe σ2 vs = wipe σ vs ∧ tt σ2 H2 fun b H3 =>
        if b = true then te σ2 H3 fun y H4 => ∃ acc, H4 D = some (.lst acc) ∧ acc.length < sizeLine ∧ Nx (upd H4 D (.lst (acc ++ [y]))) else Nx H3) :=
  lc_list (K := K) (a := a) (xs := xs) (g := gName j) (Cw H1 b R D) (Cw.zero nD) (fun i H' _ p => p.2.1.seq hx) (fun i x H' hi p => ⟨hw _, cw_turn mono p (by have := (List.getElem?_eq_some_iff.mp hi).1; omega) (fun H' e => ht i x H' hi e) (fun H' e a hb => he i x H' hi e a hb)⟩)
    (fun H' p => by obtain ⟨_, e, ys, h1, h2, _⟩ := p; exact hd H' ys e h1 h2)
end
/-- all turns give -/
def yes : Nat → Bool := fun _ => true
theorem filter_yes (n : Nat) : (List.range n).filter yes = List.range n := by
  rw [List.filter_eq_self]
  intro _ _; rfl
theorem tt_yes {σ : L2.St} {H' : Hp} (Q : Bool → Hp → Prop) (h : ∀ H4, Ext H' H4 → Q (yes i) H4) : tYes σ H' Q := h H' (Ext.refl H')
/-- ints -/
def RI (f : Nat → Int) : Nat → V → Hp → Prop := fun i y _ => y = .int (f i)
theorem RI.mono (f : Nat → Int) : Mono (RI f) := fun _ _ _ _ h _ => h
theorem paired_RI {f : Nat → Int} {H : Nat → V → Hp} : ∀ {l : List Nat} {ys : List V}, Paired (fun k y => RI f k y (H k y)) l ys → ys = (l.map f).map V.int
  | _, _, .nil => rfl
  | _, _, .cons h t => by rw [h, paired_RI t]; rfl
/-- tuples of ints -/
def RT (K : PySem.W.Frag) (f : Nat → List Int) : Nat → V → Hp → Prop := fun i y H => TI K H y (f i)
theorem RT.mono (K : PySem.W.Frag) (f : Nat → List Int) : Mono (RT K f) := fun _ _ _ _ h e => TI.mono h e
/-- a list of tuples of ints -/
def LT (K : PySem.W.Frag) (H : Hp) (ys : List V) (L : List (List Int)) : Prop := Paired (fun y ns => TI K H y ns) ys L
theorem LT.mono {K : PySem.W.Frag} {H H' : Hp} {ys : List V} {L : List (List Int)} (h : LT K H ys L) (e : Ext H H') : LT K H' ys L := L2.Paired.mapP h fun _ _ r => TI.mono r e
theorem LT.len {K : PySem.W.Frag} {H : Hp} {ys : List V} {L : List (List Int)} (h : LT K H ys L) : ys.length = L.length := Paired.length h
theorem LT.get {K : PySem.W.Frag} {H : Hp} : ∀ {ys : List V} {L : List (List Int)} {i : Nat} {y : V}, LT K H ys L → ys[i]? = some y → ∃ ns, L[i]? = some ns ∧ TI K H y ns
  | _, _, i, _, .nil, h => by simp at h
  | _, _, 0, _, .cons r t, h => by simp at h; subst h; exact ⟨_, rfl, r⟩
  | _, _, i + 1, y, .cons r t, h => LT.get (i := i) (y := y) t h
theorem LT.append {K : PySem.W.Frag} {H : Hp} : ∀ {ys zs : List V} {L M : List (List Int)}, LT K H ys L → LT K H zs M → LT K H (ys ++ zs) (L ++ M)
  | _, _, _, _, .nil, h => h
  | _, _, _, _, .cons r t, h => .cons r (LT.append t h)
theorem paired_RT {K : PySem.W.Frag} {f : Nat → List Int} {H : Hp} : ∀ {l : List Nat} {ys : List V}, Paired (fun k y => RT K f k y H) l ys → LT K H ys (l.map f)
  | _, _, .nil => .nil
  | _, _, .cons h t => .cons h (paired_RT t)
/-! ### the rules with the written part K told (within a comprehension's block) -/
/-- len, in a block -/
def lenRd (K : PySem.W.Frag) (as : List V) (H : Hp) (Q : VK) : Prop := ∃ (t : Addr) (us : List V), as = [V.ref t] ∧ (SqL K H t us ∨ SqT K H t us) ∧ Q (V.int (us.length : Nat)) H
section
variable {X : Cx} {K : PySem.W.Frag}
theorem call_lenK (K : PySem.W.Frag) (h : X.K = K := by rfl) : CallR X (.builtin "len") (lenRd K) := by subst h; exact call_len_seq
theorem ix_tupK (K : PySem.W.Frag) (h : X.K = K := by rfl) : IxR X (rIxT K) := by subst h; exact ix_tup
theorem ix_listK (K : PySem.W.Frag) (h : X.K = K := by rfl) : IxR X (rIxL K) := by subst h; exact ix_list
theorem op_inK (K : PySem.W.Frag) (h : X.K = K := by rfl) : OpR X (compareOp .In) (rIn K false) := by subst h; exact op_in_seq
theorem op_notInK (K : PySem.W.Frag) (h : X.K = K := by rfl) : OpR X (compareOp .NotIn) (rIn K true) := by subst h; exact op_notIn_seq
theorem pa_starK (K : PySem.W.Frag) {e : Expr} {es : List Expr} {te : TE} {t : TA} {p : Pos} (he : PE X e te) (hr : PA X es t) (h : X.K = K := by rfl) (hs : starEach (.Starred e p :: es) X.env = (true, eval e X.env) :: starEach es X.env := by rfl) :
    PA X (.Starred e p :: es) (StX.tStar K te t) := by subst h; exact StX.pa_star he hr hs
theorem pe_bmK (K : PySem.W.Frag) {o e : Expr} {es : List Expr} {to : TE} {t : TA} {name : Str} {apos cpos : Pos} {T id : String} {r : V → List V → Hp → VK → Prop} (pa : PlainAttrs T) (slot : Slot T name id) (hty : typeOf (.builtin id) = pure (.type "method_descriptor")) (hm : MtR X id r) (ho : PE X o to) (ha : PA X (e :: es) t)
    (h : X.K = K := by rfl) (hbase : attributeBase o name X.env (eval o X.env) = eval o X.env := by rfl)
    (hfew : ((backTo cpos (starEach (e :: es) X.env)).all (fun x => !x.1) && (backToKw cpos (keywordEach [] X.env)).all (fun x => x.1.isSome)
      && decide ((e :: es).length + ([] : List Keyword).length + (if ([] : List Keyword).isEmpty then 0 else 1) < 30)) = true := by rfl)
    (hline : (apos.endLine == cpos.line) = true := by rfl) (hs : starEach (e :: es) X.env = (false, eval e X.env) :: starEach es X.env := by rfl) (hplain : (backTo cpos (starEach es X.env)).any (·.1) = false := by rfl) :
    PE X (.Call (.Attribute o name apos) (e :: es) [] cpos) (tBM K T r to t) := by subst h; exact pe_bm pa slot hty hm ho ha hbase hfew hline hs hplain
theorem mt_countK (K : PySem.W.Frag) (h : X.K = K := by rfl) : MtR X "list.count" (rCntI K) := by subst h; exact mt_lcount
end
end Ft
namespace Ft
open PySem PySem.Spec PyProof.Rows L2
/-! ### holder_of -/
def firstOut (gone : List Int) : List Int → Int
  | [] => -1
  | x :: r => if x ∈ gone then firstOut gone r else x
def spHolderOf (K : PySem.W.Frag) : Sp := fun vs H Q _ => ∃ (t g : Addr) (d gone : List Int) (p : Int) (r : List Int), vs = [.ref t, .ref g, .int p] ∧ SqT K H t (d.map V.int) ∧ SqT K H g (gone.map V.int) ∧ chainRun d 5 [] p = some r ∧
  ∀ H', Ext H H' → Q (.int (firstOut gone r)) H'
section
variable {P : Program} {w : World} {K : PySem.W.Frag} {mg : Str → Option Value} {base : Heap}
theorem ok_holderOf (D : Df K mg "holder_of" sHolderOf ["deputies", "gone", "person"]) (CC : Cal P w K mg base 1 "chain_of" ["deputies", "person"] (spChainOf K)) : Cal P w K mg base 2 "holder_of" ["deputies", "gone", "person"] (spHolderOf K) := by
  refine D.ok scHolderOf (fun vs H Q E h => ?_) (fun f cdv A outer s H vs Q E hr h => ?_)
  · obtain ⟨t, g, d, gone, p, r, rfl, _⟩ := h
    rfl
  · obtain ⟨t, g, d, gone, p, r, rfl, hT, hG, hc, q⟩ := h
    refine ⟨_, pss_cons (ps_for PassesOwn.never rfl (pi_list (pe_c CC hr (by rfl) (pa_cons (pv 0) (pa_cons (pv 2) pa_nil)))) (pg_name (i := 3) scHolderOf.nd rfl (.inl rfl))
        (pss_one (ps_if (pt_cmpR op_notIn_seq (pv 3) (pv 1) (by rfl)) (pss_one (ps_ret (pv 3))) pss_nil)))
      (pss_one (ps_ret (pe_un un_neg pe_int))), ?_⟩
    refine ⟨.ref t, rfl, .int p, rfl, t, d, p, r, rfl, hT, hc, fun H1 l e1 nl hl => ⟨l, rfl, ⟨_, SqL.of hl⟩, ?_⟩⟩
    refine for_list (K := K) (a := l) (xs := r.map V.int) (fun i σ H2 => (∃ o, σ = [some (.ref t), some (.ref g), some (.int p), o]) ∧ H2 = H1 ∧ firstOut gone (r.drop i) = firstOut gone r)
      ⟨⟨_, rfl⟩, rfl, rfl⟩ (fun i σ H2 _ hp => by rw [hp.2.1]; exact SqL.of hl) ?_ ?_
    · rintro i x σ H2 hx ⟨⟨o, rfl⟩, rfl, hd⟩
      obtain ⟨n, hn, rfl⟩ := get_map hx
      obtain ⟨hlt, en⟩ := List.getElem?_eq_some_iff.mp hn
      rw [List.drop_eq_getElem_cons hlt, en] at hd
      refine ⟨.int n, rfl, .ref g, rfl, g, gone.map V.int, rfl, .inr (e1.sqt hG), rfl, flat_ints _, !(inV (.int n) (gone.map V.int)), rfl, ?_⟩
      rw [inV_ints]
      by_cases hm : n ∈ gone
      · rw [decide_eq_true hm]
        refine iteF ⟨⟨_, rfl⟩, rfl, ?_⟩
        rw [← hd]
        show _ = (if n ∈ gone then _ else _)
        rw [if_pos hm]
      · rw [decide_eq_false hm]
        refine iteT ⟨.int n, rfl, ?_⟩
        have en2 : n = firstOut gone r := by
          rw [← hd]
          show n = (if n ∈ gone then _ else n)
          rw [if_neg hm]
        show Q (.int n) _
        rw [en2]
        exact q _ e1
    · rintro σ H2 ⟨⟨o, rfl⟩, rfl, hd⟩
      refine ⟨1, rfl, ?_⟩
      rw [List.length_map, List.drop_length] at hd
      have q2 := q _ e1
      rw [← hd] at q2
      exact q2
end
/-! ### all_holders -/
def chM (d : List Int) (p : Int) : List Int := (chainRun d 5 [] p).getD []
def hdM (d gone : List Int) (p : Int) : Int := firstOut gone (chM d p)
def holdersM (d gone : List Int) : List Int := (List.range d.length).map fun i : Nat => hdM d gone (i : Int)
/-- every chain ends -/
def chOk (d : List Int) : Bool := (List.range d.length).all fun i : Nat => (chainRun d 5 [] (i : Int)).isSome
theorem chOk_at {d : List Int} (h : chOk d = true) {i : Nat} (hi : i < d.length) : chainRun d 5 [] (i : Int) = some (chM d i) := by
  have h2 := List.all_eq_true.mp h i (List.mem_range.mpr hi)
  unfold chM
  cases e : chainRun d 5 [] (i : Int) with
  | none => rw [e] at h2; cases h2
  | some r => rfl
def spAllHolders (K : PySem.W.Frag) : Sp := fun vs H Q _ => ∃ (t g : Addr) (d gone : List Int), vs = [.ref t, .ref g] ∧ SqT K H t (d.map V.int) ∧ SqT K H g (gone.map V.int) ∧ d.length ≤ 6 ∧ chOk d = true ∧
  ∀ H' l, Ext H H' → H l = none → H' l = some (.lst ((holdersM d gone).map V.int)) → Q (.ref l) H'
section
variable {P : Program} {w : World} {K : PySem.W.Frag} {mg : Str → Option Value} {base : Heap}
theorem ok_allHolders (B : Bt mg) (D : Df K mg "all_holders" sAllHolders ["deputies", "gone"]) (CH : Cal P w K mg base 2 "holder_of" ["deputies", "gone", "person"] (spHolderOf K)) : Cal P w K mg base 3 "all_holders" ["deputies", "gone"] (spAllHolders K) := by
  refine D.ok scAllHolders (fun vs H Q E h => ?_) (fun f cdv A outer s H vs Q E hr h => ?_)
  · obtain ⟨t, g, d, gone, rfl, _⟩ := h
    rfl
  · obtain ⟨t, g, d, gone, rfl, hT, hG, hl6, hok, q⟩ := h
    refine ⟨_, pss_one (ps_ret (pe_lc (own := [("person", 2)]) (g := gName 2) (tt := tYes) (by rfl) scAllHolders.nd (pi_range1 (by rfl) B.range (pa_cons (pe_callB call_len_seq (by rfl) B.len PySem.boot_len (pa_cons (pv 0) pa_nil)) pa_nil))
      (blkOk_by (N := ["deputies", "gone", "person"]) (sc := defScope sAllHolders) (by decide +kernel)) (fun _ _ _ _ _ => pg_name (i := 2) scAllHolders.nd rfl (Or.inl rfl)) (fun _ _ _ _ _ => pts_nil)
      (fun _ _ _ _ _ => pe_c CH hr (by rfl) (pa_cons (pv 0) (pa_cons (pv 1) (pa_cons (pv 2) pa_nil)))))), ?_⟩
    refine ⟨.ref t, rfl, t, d.map V.int, rfl, .inr hT, (d.map V.int).length, rfl, by omega, by rw [List.length_map]; omega, fun l nl => ?_⟩
    rw [List.length_map, Int.toNat_natCast]
    refine lc_rng (lo := 0) (j := 2) yes (RI fun i : Nat => hdM d gone (i : Int)) (RI.mono _) ?_ nl ?_ ?_ ?_ ?_
    · omega
    · exact fun _ => rfl
    · exact fun i H' hi e Q2 h2 => h2 H' (Ext.refl H')
    · intro i H' hi e _ _ Q2 h2
      refine ⟨.ref t, rfl, .ref g, rfl, .int (0 + (i : Int)), rfl, t, g, d, gone, (i : Int), chM d i, ?_, e.sqt hT, e.sqt hG, chOk_at hok hi, fun H4 e4 => h2 _ H4 e4 rfl⟩
      rw [Int.zero_add]
    · intro H' ys e hys hp
      have ey := paired_RI (H := fun k y => hid l H') hp
      rw [filter_yes] at ey
      subst ey
      exact q H' l e nl hys
end
/-! ### all_deputies -/
def opts (n p : Nat) : List Int := ((List.range (n + 1)).filter fun i : Nat => !decide ((-1 : Int) + (i : Int) = (p : Int))).map fun i : Nat => (-1 : Int) + (i : Int)
def depsRaw (n : Nat) : Nat → List (List Int)
  | 0 => [[]]
  | p + 1 => (depsRaw n p).flatMap fun s => (opts n p).map fun x => s ++ [x]
def depsM (n : Nat) : List (List Int) := depsRaw n n
theorem LT.pairs {K : PySem.W.Frag} {H : Hp} {f : Nat → List Int} : ∀ {l : List Nat} {ys : List V}, Paired (fun k y => TI K H y (f k)) l ys → LT K H ys (l.map f)
  | _, _, .nil => .nil
  | _, _, .cons h t => .cons h (LT.pairs t)
def spAllDeputies (K : PySem.W.Frag) : Sp := fun vs H Q _ => ∃ n : Nat, vs = [.int (n : Int)] ∧ n ≤ 3 ∧ ∀ H' l ys, Ext H H' → H l = none → H' l = some (.lst ys) → LT K H' ys (depsM n) → Q (.ref l) H'
theorem depsRaw_len : ∀ n ≤ 3, ∀ p ≤ 3, (depsRaw n p).length ≤ 64 := by decide +kernel
theorem depsRaw_sl : ∀ n ≤ 3, ∀ p ≤ 3, ∀ s ∈ depsRaw n p, s.length ≤ 3 := by decide +kernel
theorem opts_len (n p : Nat) : (opts n p).length ≤ n + 1 := by
  unfold opts
  rw [List.length_map]
  have h := List.length_filter_le (fun i : Nat => !decide ((-1 : Int) + (i : Int) = (p : Int))) (List.range (n + 1))
  rw [List.length_range] at h
  exact h
theorem flat_len (n p : Nat) (L : List (List Int)) : (L.flatMap fun s => (opts n p).map fun x => s ++ [x]).length = L.length * (opts n p).length := by
  induction L with
  | nil => simp
  | cons a r ih =>
    rw [List.flatMap_cons, List.length_append, List.length_map, ih, List.length_cons, Nat.succ_mul, Nat.add_comm]
section
variable {P : Program} {w : World} {K : PySem.W.Frag} {mg : Str → Option Value} {base : Heap}
theorem ok_allDeputies (B : Bt mg) (D : Df K mg "all_deputies" sAllDeputies ["size"]) : Cal P w K mg base 1 "all_deputies" ["size"] (spAllDeputies K) := by
  refine D.ok scAllDeputies (fun vs H Q E h => ?_) (fun f cdv A outer s H vs Q E hr h => ?_)
  · obtain ⟨n, rfl, _⟩ := h
    rfl
  · obtain ⟨n, rfl, hn, q⟩ := h
    refine ⟨_, pss_cons (ps_set (i := 1) scAllDeputies.nd rfl (.inl rfl) (pe_lst (pa_cons (pe_tup pa_nil) pa_nil)))
      (pss_cons (ps_for PassesOwn.never rfl (pi_range1 (by rfl) B.range (pa_cons (pv 0) pa_nil)) (pg_name (i := 2) scAllDeputies.nd rfl (.inr rfl))
        (pss_cons (ps_set (i := 3) scAllDeputies.nd rfl (.inl rfl) (pe_lst pa_nil))
        (pss_cons (ps_for PassesOwn.never rfl (pi_list (pv 1)) (pg_name (i := 4) scAllDeputies.nd rfl (.inr rfl))
          (pss_one (ps_set (i := 3) scAllDeputies.nd rfl (.inl rfl) (pe_op op_cat (pv 3) (pe_lc (own := [("one", 5)]) (g := gName 5) (by rfl) scAllDeputies.nd (pi_range2 (by rfl) B.range (pa_cons (pe_un un_neg pe_int) (pa_cons (pv 0) pa_nil)))
            (blkOk_by (N := ["size", "found", "person", "more", "some", "one"]) (sc := defScope sAllDeputies) (by decide +kernel)) (fun _ _ _ _ _ => pg_name (i := 5) scAllDeputies.nd rfl (Or.inl rfl)) (fun _ _ _ _ _ => pts_one (pt_cmpR op_ne (pv 5) (pv 2) (nomark _)))
            (fun _ _ _ _ _ => pe_tup (pa_starK K (pv 4) (pa_cons (pv 5) pa_nil))))))))
        (pss_one (ps_set (i := 1) scAllDeputies.nd rfl (.inl rfl) (pv 3))))))
      (pss_one (ps_ret (pv 1)))), ?_⟩
    -- found = [()]
    refine ⟨Nat.zero_le _, fun t0 n0 => ⟨by show 1 ≤ sizeLine; decide, fun f0 nf0 => ?_⟩⟩
    have e0 : Ext H (upd (upd H t0 (.tup [])) f0 (.lst [.ref t0])) := (Ext.new n0).trans (Ext.new nf0)
    have nt0 : t0 ≠ f0 := fun z => by rw [← z, upd_same] at nf0; cases nf0
    refine ⟨.int (n : Int), rfl, (n : Int), rfl, by omega, by omega, ?_⟩
    rw [Int.toNat_natCast]
    refine for_range (lo := 0) (n := n) (fun p σ H2 => p ≤ n ∧ ∃ (fa : Addr) (ys : List V) (o2 o3 o4 o5 : Option V), σ = [some (.int (n : Int)), some (.ref fa), o2, o3, o4, o5] ∧ Ext H H2 ∧ H fa = none ∧ H2 fa = some (.lst ys) ∧ LT K H2 ys (depsRaw n p))
      ⟨Nat.zero_le _, f0, [.ref t0], none, none, none, none, rfl, e0, (Ext.new n0).free _ nf0, upd_same, .cons ⟨t0, rfl, SqT.of (by rw [upd_ne nt0, upd_same]; rfl)⟩ .nil⟩ ?_ ?_
    · rintro p σ H2 hp ⟨hpn, fa, ys, o2, o3, o4, o5, rfl, e2, nfa, hfa, hL⟩
      have hpn' : p + 1 ≤ n := hp
      have hsl := depsRaw_sl n hn p (by omega)
      have hlen : ys.length ≤ 64 := by rw [hL.len]; exact depsRaw_len n hn p (by omega)
      -- more = []
      refine ⟨Nat.zero_le _, fun m0 nm0 => ?_⟩
      have e3 : Ext H2 (upd H2 m0 (.lst [])) := Ext.new nm0
      -- for some in found
      refine ⟨.ref fa, rfl, fa, rfl, ⟨ys, SqL.of (e3.lst hfa)⟩, ?_⟩
      refine for_list (K := K) (a := fa) (xs := ys) (fun i σ H3 => ∃ (ma : Addr) (zs : List V) (o4 o5 : Option V), σ = [some (.int (n : Int)), some (.ref fa), some (.int ((0 : Int) + (p : Int))), some (.ref ma), o4, o5] ∧ Ext H2 H3 ∧ H2 ma = none ∧ H3 ma = some (.lst zs) ∧
          LT K H3 zs (((depsRaw n p).take i).flatMap fun s => (opts n p).map fun x => s ++ [x]))
        ⟨m0, [], o4, o5, rfl, e3, nm0, upd_same, .nil⟩ (fun i σ H3 _ ⟨_, _, _, _, _, e, _⟩ => SqL.of (e.lst hfa)) ?_ ?_
      · rintro i y σ H3 hy ⟨ma, zs, o4, o5, rfl, e4, nma, hma, hZ⟩
        obtain ⟨s, hs, t, rfl, ht⟩ := LT.get (hL.mono e4) hy
        have hzl : zs.length ≤ 1000 - 500 := by
          rw [hZ.len, flat_len]
          have h1 := opts_len n p
          have h2 : ((depsRaw n p).take i).length ≤ 64 := by
            rw [List.length_take]
            have := depsRaw_len n hn p (by omega)
            omega
          calc _ ≤ 64 * 4 := Nat.mul_le_mul h2 (by omega)
            _ ≤ 500 := by decide
        refine ⟨.ref ma, rfl, 1, rfl, .int (n : Int), rfl, -1, (n : Int), rfl, ⟨by decide, by decide, by omega, by omega⟩, fun D nD => ?_⟩
        rw [show ((n : Int) - -1).toNat = n + 1 by omega]
        refine lc_rng (lo := -1) (j := 5) (fun i => !decide ((-1 : Int) + (i : Int) = (p : Int))) (RT K fun i => s ++ [(-1 : Int) + (i : Int)]) (RT.mono K _) (by omega) nD (fun _ => rfl) ?_ ?_ ?_
        · intro k H' hk e Q2 h2
          refine ⟨.int ((-1 : Int) + (k : Int)), rfl, .int ((0 : Int) + (p : Int)), rfl, rfl, !decide ((-1 : Int) + (k : Int) = (p : Int)), ?_, h2 H' (Ext.refl H')⟩
          rw [Int.zero_add]
          congr 2
          by_cases hh : (-1 : Int) + (k : Int) = (p : Int)
          · rw [decide_eq_true hh, hh, decide_eq_true rfl]
          · rw [decide_eq_false hh, decide_eq_false fun z => hh (V.int.inj z)]
        · intro k H' hk e ha hb Q2 h2
          refine ⟨.ref t, rfl, t, s.map V.int, rfl, .inl (e.sqt ht), .int ((-1 : Int) + (k : Int)), rfl, ?_, fun T nT => ?_⟩
          · rw [List.length_append, List.length_map]
            show s.length + 1 ≤ sizeLine
            exact sz (by have := hsl s (List.mem_of_getElem? hs); omega)
          · refine h2 _ _ (Ext.new nT) ⟨T, rfl, ?_⟩
            have nTD : T ≠ D := fun z => by
              obtain ⟨acc, ha⟩ := ha
              rw [z, ha] at nT
              cases nT
            refine SqT.of ?_
            rw [hid_ne nTD, upd_same, List.map_append]
            rfl
        · intro H' ws e hws hp2
          have nwD : ma ≠ D := ne_of_none hma nD
          have hw := paired_RT hp2
          refine ⟨ma, D, zs, ws, rfl, rfl, e.lst hma, hws, ?_, fun N nN => ?_⟩
          · have := hw.len
            rw [List.length_map] at this
            have h9 := List.length_filter_le (fun i : Nat => !decide ((-1 : Int) + (i : Int) = (p : Int))) (List.range (n + 1))
            rw [List.length_range] at h9
            exact sz (by omega)
          · refine ⟨N, zs ++ ws, _, _, rfl, (e4.trans e).trans (Ext.new nN), (e4.trans e).free _ nN, upd_same, ?_⟩
            obtain ⟨hlt, es⟩ := List.getElem?_eq_some_iff.mp hs
            rw [List.take_succ_eq_append_getElem hlt, List.flatMap_append, es]
            refine LT.append (hZ.mono (e.trans (Ext.new nN))) ?_
            have hw2 := (hw.mono (ext_hid D H')).mono (Ext.new (o := .lst (zs ++ ws)) nN)
            rw [List.flatMap_cons, List.flatMap_nil, List.append_nil]
            unfold opts
            rw [List.map_map]
            exact hw2
      · rintro σ H3 ⟨ma, zs, o4, o5, rfl, e4, nma, hma, hZ⟩
        refine ⟨.ref ma, rfl, ⟨hpn', ma, zs, _, _, _, _, rfl, e2.trans e4, e2.free _ nma, hma, ?_⟩⟩
        rw [hL.len, List.take_length] at hZ
        exact hZ
    · rintro σ H2 ⟨_, fa, ys, o2, o3, o4, o5, rfl, e2, nfa, hfa, hL⟩
      exact ⟨.ref fa, rfl, q _ fa ys e2 nfa hfa hL⟩
end
end Ft
namespace Ft
open PySem PySem.Spec PyProof.Rows L2
/-! ### constants of the text -/
structure Ct (mg : Str → Option Value) : Prop where
  people : ∃ t, mg "MOST_PEOPLE" = some (.int 6 t)
  fitted : ∃ t, mg "MOST_FITTED" = some (.int 4 t)
  counted : ∃ t, mg "MOST_COUNTED" = some (.int 60 t)
  sure : ∃ t, mg "MOST_SURE" = some (.int 3 t)
  gcd : mg "gcd" = some (.builtin "math.gcd")
/-! ### min of ints -/
def minL : List Int → Int
  | [] => 0
  | x :: r => r.foldl min x
theorem fold_min_le : ∀ (r : List Int) (x : Int), r.foldl min x ≤ x ∧ (∀ y ∈ r, r.foldl min x ≤ y) ∧ (r.foldl min x = x ∨ r.foldl min x ∈ r)
  | [], x => ⟨Int.le_refl _, fun y h => (by cases h), Or.inl rfl⟩
  | a :: r, x => by
    obtain ⟨h1, h2, h3⟩ := fold_min_le r (min x a)
    show r.foldl min (min x a) ≤ x ∧ _
    refine ⟨by omega, fun y hy => ?_, ?_⟩
    · rcases List.mem_cons.mp hy with rfl | hy
      · show r.foldl min (min x y) ≤ y
        omega
      · exact h2 y hy
    · show r.foldl min (min x a) = x ∨ r.foldl min (min x a) ∈ a :: r
      rcases h3 with h3 | h3
      · rw [h3]
        by_cases hx : x ≤ a
        · rw [Int.min_eq_left hx]; exact .inl rfl
        · rw [Int.min_eq_right (by omega)]; exact .inr List.mem_cons_self
      · exact .inr (List.mem_cons_of_mem _ h3)
theorem min_is {ns : List Int} {m : Int} (h1 : m ∈ ns) (h2 : ∀ y ∈ ns, m ≤ y) : m = minL ns := by
  cases ns with
  | nil => cases h1
  | cons x r =>
    obtain ⟨a, b, c⟩ := fold_min_le r x
    show m = r.foldl min x
    have h3 : m ≤ r.foldl min x := by
      rcases c with c | c
      · rw [c]; exact h2 x List.mem_cons_self
      · exact h2 _ (List.mem_cons_of_mem _ c)
    have h4 : r.foldl min x ≤ m := by
      rcases List.mem_cons.mp h1 with rfl | h1
      · exact a
      · exact b _ h1
    omega
/-! ### shortest -/
def shortM (d : List Int) : Int := minL ((List.range d.length).map fun i : Nat => ((chM d (i : Int)).length : Int))
def spShortest (K : PySem.W.Frag) : Sp := fun vs H Q _ => ∃ (t : Addr) (d : List Int), vs = [.ref t] ∧ SqT K H t (d.map V.int) ∧ 0 < d.length ∧ d.length ≤ 6 ∧ chOk d = true ∧ ∀ H', Ext H H' → Q (.int (shortM d)) H'
section
variable {P : Program} {w : World} {K : PySem.W.Frag} {mg : Str → Option Value} {base : Heap}
theorem ok_shortest (B : Bt mg) (D : Df K mg "shortest" sShortest ["deputies"]) (CC : Cal P w K mg base 1 "chain_of" ["deputies", "person"] (spChainOf K)) : Cal P w K mg base 2 "shortest" ["deputies"] (spShortest K) := by
  refine D.ok scShortest (fun vs H Q E h => ?_) (fun f cdv A outer s H vs Q E hr h => ?_)
  · obtain ⟨t, d, rfl, _⟩ := h
    rfl
  · obtain ⟨t, d, rfl, hT, h0, h6, hok, q⟩ := h
    refine ⟨_, pss_one (ps_ret (pe_callB (cr_min (by rfl)) (by rfl) B.min PyProof.Rows.boot_min (pa_cons (pe_lc (own := [("person", 1)]) (g := gName 1) (tt := tYes) (by rfl) scShortest.nd (pi_range1 (by rfl) B.range (pa_cons (pe_callB call_len_seq (by rfl) B.len PySem.boot_len (pa_cons (pv 0) pa_nil)) pa_nil))
      (blkOk_by (N := ["deputies", "person"]) (sc := defScope sShortest) (by decide +kernel)) (fun _ _ _ _ _ => pg_name (i := 1) scShortest.nd rfl (Or.inl rfl)) (fun _ _ _ _ _ => pts_nil)
      (fun _ _ _ _ _ => pe_callB (call_lenK K) (by rfl) B.len PySem.boot_len (pa_cons (pe_c CC hr (by rfl) (pa_cons (pv 0) (pa_cons (pv 1) pa_nil))) pa_nil))) pa_nil))), ?_⟩
    refine ⟨.ref t, rfl, t, d.map V.int, rfl, .inr hT, (d.map V.int).length, rfl, by omega, by rw [List.length_map]; omega, fun l nl => ?_⟩
    rw [List.length_map, Int.toNat_natCast]
    refine lc_rng (lo := 0) (j := 1) yes (RI fun i : Nat => ((chM d (i : Int)).length : Int)) (RI.mono _) ?_ nl ?_ ?_ ?_ ?_
    · omega
    · exact fun _ => rfl
    · exact fun i H' hi e Q2 h2 => h2 H' (Ext.refl H')
    · intro i H' hi e _ _ Q2 h2
      refine ⟨.ref t, rfl, .int (0 + (i : Int)), rfl, t, d, (i : Int), chM d i, ?_, e.sqt hT, chOk_at hok hi, fun H4 m e4 nm hm => ?_⟩
      · rw [Int.zero_add]
      · refine ⟨m, _, rfl, .inl (SqL.of hm), h2 _ H4 e4 ?_⟩
        show V.int _ = V.int _
        rw [List.length_map]
    · intro H' ys e hys hp
      have ey := paired_RI (H := fun k y => hid l H') hp
      rw [filter_yes] at ey
      subst ey
      refine ⟨l, _, rfl, SqL.of hys, by rw [List.length_map, List.length_range]; exact h0, fun m h1 h2 => ?_⟩
      rw [min_is h1 h2]
      exact q H' e
/-! ### powered, choices -/
end
def powM (b : Int) : Nat → Int
  | 0 => 1
  | i + 1 => powM b i * b
def spPowered : Sp := fun vs H Q _ => ∃ (b : Int) (n : Nat), vs = [.int b, .int (n : Int)] ∧ (-(2 ^ 64) < b ∧ b < 2 ^ 64) ∧ n ≤ 1000 ∧ Q (.int (powM b n)) H
def chooM (w : Int) : Nat → Int
  | 0 => 1
  | k + 1 => chooM w k * (w - (k : Int)) / ((k : Int) + 1)
def spChoices : Sp := fun vs H Q _ => ∃ (b n : Int), vs = [.int b, .int n] ∧ (-1000 < b ∧ b < 1000) ∧ n ≤ 1000 ∧ -1000 ≤ n ∧ Q (.int (chooM b n.toNat)) H
section
variable {P : Program} {w : World} {K : PySem.W.Frag} {mg : Str → Option Value} {base : Heap}
theorem ok_powered (B : Bt mg) (D : Df K mg "powered" sPowered ["base", "many"]) : Cal P w K mg base 1 "powered" ["base", "many"] spPowered := by
  refine D.ok scPowered (fun vs H Q E h => ?_) (fun f cdv A outer s H vs Q E hr h => ?_)
  · obtain ⟨b, n, rfl, _⟩ := h
    rfl
  · obtain ⟨b, n, rfl, hb, hn, q⟩ := h
    refine ⟨_, pss_cons (ps_set (i := 2) scPowered.nd rfl (.inl rfl) pe_int)
      (pss_cons (ps_for PassesOwn.never rfl (pi_range1 (by rfl) B.range (pa_cons (pv 1) pa_nil)) (pg_name (i := 3) scPowered.nd rfl (.inl rfl)) (pss_one (ps_set (i := 2) scPowered.nd rfl (.inl rfl) (pe_op op_mul (pv 2) (pv 0)))))
      (pss_one (ps_ret (pv 2)))), ?_⟩
    refine ⟨.int (n : Int), rfl, (n : Int), rfl, by omega, by omega, ?_⟩
    rw [Int.toNat_natCast]
    refine for_range (lo := 0) (n := n) (fun i σ H2 => (∃ o, σ = [some (.int b), some (.int (n : Int)), some (.int (powM b i)), o]) ∧ H2 = H) ⟨⟨_, rfl⟩, rfl⟩ ?_ ?_
    · rintro i σ H2 hi ⟨⟨o, rfl⟩, rfl⟩
      exact ⟨_, rfl, _, rfl, _, _, rfl, rfl, .inr hb, ⟨_, rfl⟩, rfl⟩
    · rintro σ H2 ⟨⟨o, rfl⟩, rfl⟩
      exact ⟨_, rfl, q⟩
theorem ok_choices (B : Bt mg) (D : Df K mg "choices" sChoices ["whole", "part"]) : Cal P w K mg base 1 "choices" ["whole", "part"] spChoices := by
  refine D.ok scChoices (fun vs H Q E h => ?_) (fun f cdv A outer s H vs Q E hr h => ?_)
  · obtain ⟨b, n, rfl, _⟩ := h
    rfl
  · obtain ⟨b, n, rfl, hb, hn, hn2, q⟩ := h
    refine ⟨_, pss_cons (ps_set (i := 2) scChoices.nd rfl (.inl rfl) pe_int)
      (pss_cons (ps_for PassesOwn.never rfl (pi_range1 (by rfl) B.range (pa_cons (pv 1) pa_nil)) (pg_name (i := 3) scChoices.nd rfl (.inl rfl)) (pss_one (ps_set (i := 2) scChoices.nd rfl (.inl rfl)
        (pe_op op_fdiv (pe_op op_mul (pv 2) (pe_op op_sub (pv 0) (pv 3))) (pe_op op_add (pv 3) pe_int)))))
      (pss_one (ps_ret (pv 2)))), ?_⟩
    refine ⟨.int n, rfl, n, rfl, by omega, by omega, ?_⟩
    refine for_range (lo := 0) (n := n.toNat) (fun i σ H2 => (∃ o, σ = [some (.int b), some (.int n), some (.int (chooM b i)), o]) ∧ H2 = H) ⟨⟨_, rfl⟩, rfl⟩ ?_ ?_
    · rintro i σ H2 hi ⟨⟨o, rfl⟩, rfl⟩
      refine ⟨_, rfl, .int b, rfl, .int (0 + (i : Int)), rfl, b, 0 + (i : Int), rfl, rfl, _, b - (0 + (i : Int)), rfl, rfl, .inr ⟨by omega, by omega⟩, .int (0 + (i : Int)), rfl, 0 + (i : Int), 1, rfl, rfl, _, 0 + (i : Int) + 1, rfl, rfl, ⟨by omega, by omega⟩, ⟨some (.int (0 + (i : Int))), ?_⟩, rfl⟩
      rw [Int.zero_add]
      rfl
    · rintro σ H2 ⟨⟨o, rfl⟩, rfl⟩
      exact ⟨_, rfl, q⟩
/-! ### need_number, need_few -/
end
def spNeedNumber : Sp := fun vs H Q _ => ∃ (v lo hi : Int), vs = [.int v, .int lo, .int hi] ∧ lo ≤ v ∧ v ≤ hi ∧ Q .non H
def spNeedFew : Sp := fun vs H Q _ => ∃ (v : Int), vs = [.int v] ∧ v ≤ 4 ∧ Q .non H
theorem true_and {lo hi v : Int} (h1 : lo ≤ v) (h2 : v ≤ hi) : (decide (lo ≤ v) && decide (v ≤ hi)) = true := by rw [decide_eq_true h1, decide_eq_true h2]; rfl
section
variable {P : Program} {w : World} {K : PySem.W.Frag} {mg : Str → Option Value} {base : Heap}
theorem ok_needNumber (D : Df K mg "need_number" sNeedNumber ["value", "least", "most"]) (CI : Cal P w K mg base 1 "is_in" ["value", "least", "most"] spIsIn) : Cal P w K mg base 2 "need_number" ["value", "least", "most"] spNeedNumber := by
  refine D.ok scNeedNumber (fun vs H Q E h => ?_) (fun f cdv A outer s H vs Q E hr h => ?_)
  · obtain ⟨v, lo, hi, rfl, _⟩ := h
    rfl
  · obtain ⟨v, lo, hi, rfl, h1, h2, q⟩ := h
    refine ⟨_, pss_one (ps_if (pt_not (pt_val (pe_c CI hr (by rfl) (pa_cons (pv 0) (pa_cons (pv 1) (pa_cons (pv 2) pa_nil)))))) (pss_one ps_never) pss_nil), ?_⟩
    refine ⟨.int v, rfl, .int lo, rfl, .int hi, rfl, v, lo, hi, rfl, true, ?_, iteF q⟩
    rw [true_and h1 h2]
theorem ok_needFew (T : Ct mg) (D : Df K mg "need_few" sNeedFew ["size"]) : Cal P w K mg base 1 "need_few" ["size"] spNeedFew := by
  refine D.ok scNeedFew (fun vs H Q E h => ?_) (fun f cdv A outer s H vs Q E hr h => ?_)
  · obtain ⟨v, rfl, _⟩ := h
    rfl
  · obtain ⟨v, rfl, h1, q⟩ := h
    obtain ⟨t, gt⟩ := T.fitted
    refine ⟨_, pss_one (ps_if (pt_cmpR op_gt (pv 0) (pe_glob (v := .int 4) (by rfl) gt ⟨_, rfl⟩) (nomark _)) (pss_one ps_never) pss_nil), ?_⟩
    refine ⟨.int v, rfl, v, 4, rfl, rfl, false, ?_, iteF q⟩
    show V.bl (decide (4 < v)) = _
    rw [decide_eq_false (by omega)]
/-! ### ratio, minus, by -/
end
def gcdM (a b : Int) : Int := ((Nat.gcd a.natAbs b.natAbs : Nat) : Int)
def ratM (a b : Int) : List Int := [a.fdiv (gcdM a b), b.fdiv (gcdM a b)]
/-- a pair of ints, handed back -/
def spRatio (K : PySem.W.Frag) : Sp := fun vs H Q _ => ∃ (a b : Int), vs = [.int a, .int b] ∧ 0 < b ∧ b < 1073741824 ∧ ∀ H' v, Ext H H' → TI K H' v (ratM a b) → Q v H'
/-- two pairs of small ints, the lower ones positive -/
def smallP (x : List Int) : Bool := match x with
  | [a, b] => decide (-10000 < a) && decide (a < 10000) && decide (0 < b) && decide (b < 10000)
  | _ => false
def minusM (x y : List Int) : List Int := ratM (x.getD 0 0 * y.getD 1 0 - y.getD 0 0 * x.getD 1 0) (x.getD 1 0 * y.getD 1 0)
def byM (x y : List Int) : List Int := ratM (x.getD 0 0 * y.getD 0 0) (x.getD 1 0 * y.getD 1 0)
def spMinus (K : PySem.W.Frag) : Sp := fun vs H Q _ => ∃ (a b : V) (x y : List Int), vs = [a, b] ∧ TI K H a x ∧ TI K H b y ∧ smallP x = true ∧ smallP y = true ∧ ∀ H' v, Ext H H' → TI K H' v (minusM x y) → Q v H'
def spBy (K : PySem.W.Frag) : Sp := fun vs H Q _ => ∃ (a b : V) (x y : List Int), vs = [a, b] ∧ TI K H a x ∧ TI K H b y ∧ smallP x = true ∧ smallP y = true ∧ ∀ H' v, Ext H H' → TI K H' v (byM x y) → Q v H'
theorem gcd_pos {a b : Int} (h : 0 < b) : 0 < gcdM a b ∧ gcdM a b ≤ b := by
  unfold gcdM
  have h1 : 0 < b.natAbs := by omega
  have h2 := Nat.gcd_pos_of_pos_right a.natAbs h1
  have h3 := Nat.gcd_le_right a.natAbs h1
  omega
section
variable {P : Program} {w : World} {K : PySem.W.Frag} {mg : Str → Option Value} {base : Heap}
theorem ok_ratio (T : Ct mg) (D : Df K mg "ratio" sRatio ["top", "bottom"]) : Cal P w K mg base 1 "ratio" ["top", "bottom"] (spRatio K) := by
  refine D.ok scRatio (fun vs H Q E h => ?_) (fun f cdv A outer s H vs Q E hr h => ?_)
  · obtain ⟨a, b, rfl, _⟩ := h
    rfl
  · obtain ⟨a, b, rfl, h1, h2, q⟩ := h
    obtain ⟨g1, g2⟩ := gcd_pos (a := a) h1
    refine ⟨_, pss_cons (ps_set (i := 2) scRatio.nd rfl (.inl rfl) (pe_ifExp (pt_cmpR op_gt (pv 1) pe_int (nomark _)) (pe_callBfun cr_gcd (by rfl) T.gcd (pa_cons (pv 0) (pa_cons (pv 1) pa_nil)))
        (pe_op op_sub pe_int (pe_callBfun cr_gcd (by rfl) T.gcd (pa_cons (pv 0) (pa_cons (pv 1) pa_nil))))))
      (pss_one (ps_ret (pe_tup (pa_cons (pe_op op_fdivN (pv 0) (pv 2)) (pa_cons (pe_op op_fdivN (pv 1) (pv 2)) pa_nil))))), ?_⟩
    refine ⟨.int b, rfl, b, 0, rfl, rfl, true, ?_, iteT ?_⟩
    · show V.bl (decide (0 < b)) = _
      rw [decide_eq_true h1]
    refine ⟨.int a, rfl, .int b, rfl, a, b, rfl, ?_⟩
    refine ⟨.int a, rfl, .int (gcdM a b), rfl, a, gcdM a b, rfl, rfl, ⟨by omega, by omega⟩, .int b, rfl, .int (gcdM a b), rfl, b, gcdM a b, rfl, rfl, ⟨by omega, by omega⟩, by show 2 ≤ sizeLine; decide, fun p np => ?_⟩
    exact q _ _ (Ext.new np) ⟨p, rfl, SqT.of upd_same⟩
theorem small_of {x : List Int} (h : smallP x = true) : ∃ a b, x = [a, b] ∧ -10000 < a ∧ a < 10000 ∧ 0 < b ∧ b < 10000 := by
  unfold smallP at h
  split at h
  · rename_i a b
    simp only [Bool.and_eq_true, decide_eq_true_eq] at h
    exact ⟨a, b, rfl, h.1.1.1, h.1.1.2, h.1.2, h.2⟩
  · cases h
theorem mul_small {a b : Int} (h1 : 0 < a) (h2 : a < 10000) (h3 : 0 < b) (h4 : b < 10000) : 0 < a * b ∧ a * b < 1073741824 := by
  refine ⟨Int.mul_pos h1 h3, ?_⟩
  have h5 : a * b ≤ 10000 * 10000 := Int.mul_le_mul (by omega) (by omega) (by omega) (by omega)
  omega
theorem ok_minus (D : Df K mg "minus" sMinus ["one", "other"]) (CR : Cal P w K mg base 1 "ratio" ["top", "bottom"] (spRatio K)) : Cal P w K mg base 2 "minus" ["one", "other"] (spMinus K) := by
  refine D.ok scMinus (fun vs H Q E h => ?_) (fun f cdv A outer s H vs Q E hr h => ?_)
  · obtain ⟨a, b, x, y, rfl, _⟩ := h
    rfl
  · obtain ⟨_, _, x, y, rfl, ⟨ta, rfl, hx⟩, ⟨tb, rfl, hy⟩, sx, sy, q⟩ := h
    obtain ⟨a, b, rfl, a1, a2, b1, b2⟩ := small_of sx
    obtain ⟨c, d, rfl, c1, c2, d1, d2⟩ := small_of sy
    refine ⟨_, pss_one (ps_ret (pe_c CR hr (by rfl) (pa_cons (pe_op op_sub (pe_op op_mul (pe_ix ix_tup (pv 0) pe_int (fun _ _ => rfl)) (pe_ix ix_tup (pv 1) pe_int (fun _ _ => rfl))) (pe_op op_mul (pe_ix ix_tup (pv 1) pe_int (fun _ _ => rfl)) (pe_ix ix_tup (pv 0) pe_int (fun _ _ => rfl))))
      (pa_cons (pe_op op_mul (pe_ix ix_tup (pv 0) pe_int (fun _ _ => rfl)) (pe_ix ix_tup (pv 1) pe_int (fun _ _ => rfl))) pa_nil)))), ?_⟩
    refine ⟨.ref ta, rfl, ta, _, 0, .int a, rfl, rfl, hx, atI_nat (j := 0) rfl, .ref tb, rfl, tb, _, 1, .int d, rfl, rfl, hy, atI_nat (j := 1) rfl, a, d, rfl, rfl, .inl ⟨by omega, by omega⟩, ?_⟩
    refine ⟨.ref tb, rfl, tb, _, 0, .int c, rfl, rfl, hy, atI_nat (j := 0) rfl, .ref ta, rfl, ta, _, 1, .int b, rfl, rfl, hx, atI_nat (j := 1) rfl, c, b, rfl, rfl, .inl ⟨by omega, by omega⟩, _, _, rfl, rfl, ?_⟩
    refine ⟨.ref ta, rfl, ta, _, 1, .int b, rfl, rfl, hx, atI_nat (j := 1) rfl, .ref tb, rfl, tb, _, 1, .int d, rfl, rfl, hy, atI_nat (j := 1) rfl, b, d, rfl, rfl, .inl ⟨by omega, by omega⟩, ?_⟩
    obtain ⟨m1, m2⟩ := mul_small b1 b2 d1 d2
    exact ⟨_, _, rfl, m1, m2, q⟩
theorem ok_by (D : Df K mg "by" sBy ["one", "other"]) (CR : Cal P w K mg base 1 "ratio" ["top", "bottom"] (spRatio K)) : Cal P w K mg base 2 "by" ["one", "other"] (spBy K) := by
  refine D.ok scBy (fun vs H Q E h => ?_) (fun f cdv A outer s H vs Q E hr h => ?_)
  · obtain ⟨a, b, x, y, rfl, _⟩ := h
    rfl
  · obtain ⟨_, _, x, y, rfl, ⟨ta, rfl, hx⟩, ⟨tb, rfl, hy⟩, sx, sy, q⟩ := h
    obtain ⟨a, b, rfl, a1, a2, b1, b2⟩ := small_of sx
    obtain ⟨c, d, rfl, c1, c2, d1, d2⟩ := small_of sy
    refine ⟨_, pss_one (ps_ret (pe_c CR hr (by rfl) (pa_cons (pe_op op_mul (pe_ix ix_tup (pv 0) pe_int (fun _ _ => rfl)) (pe_ix ix_tup (pv 1) pe_int (fun _ _ => rfl)))
      (pa_cons (pe_op op_mul (pe_ix ix_tup (pv 0) pe_int (fun _ _ => rfl)) (pe_ix ix_tup (pv 1) pe_int (fun _ _ => rfl))) pa_nil)))), ?_⟩
    refine ⟨.ref ta, rfl, ta, _, 0, .int a, rfl, rfl, hx, atI_nat (j := 0) rfl, .ref tb, rfl, tb, _, 0, .int c, rfl, rfl, hy, atI_nat (j := 0) rfl, a, c, rfl, rfl, .inl ⟨by omega, by omega⟩, ?_⟩
    refine ⟨.ref ta, rfl, ta, _, 1, .int b, rfl, rfl, hx, atI_nat (j := 1) rfl, .ref tb, rfl, tb, _, 1, .int d, rfl, rfl, hy, atI_nat (j := 1) rfl, b, d, rfl, rfl, .inl ⟨by omega, by omega⟩, ?_⟩
    obtain ⟨m1, m2⟩ := mul_small b1 b2 d1 d2
    exact ⟨_, _, rfl, m1, m2, q⟩
end
end Ft
namespace Ft
open PySem PySem.Spec PyProof.Rows L2
section
variable {X : Cx}
theorem pg_tupK (K : PySem.W.Frag) {es : List Expr} {k : Nat} {t : TGs} {pos : Pos} {n : Nat} (hc : X.calm = true) (h : PGs X es t) (hK : X.K = K := by rfl) (hn : (assignEach es X.env).length = n := by rfl) (hst : (assignEach es X.env).findIdx? (·.1) = none := by rfl) : PG X (.Tuple es k pos) (gTup K n t) := by
  subst hK
  exact pg_tup hc h hn hst
end
/-- a comprehension over zip of two tuples of one length -/
theorem lc_zipT {K : PySem.W.Frag} {a b D : Addr} {xs ys : List V} {g : TG} {tt : TT} {te : TE} {vs : List Nat} {σ : L2.St} {H1 : Hp} {Qd : Hp → Prop} (hl : xs.length = ys.length) (Pv : Nat → Hp → Prop) (h0 : Pv 0 (upd H1 D (.lst []))) (hq : ∀ i H, Pv i H → SqT K H a xs ∧ SqT K H b ys)
    (hs : ∀ (i : Nat) (x y : V) (T : Addr) (H : Hp), xs[i]? = some x → ys[i]? = some y → Pv i H → H T = none → g (.ref T) (wipe σ vs) (upd H T (.tup [x, y])) fun σ2 H2 => wipe σ2 vs = wipe σ vs ∧ tt σ2 H2 fun b H3 =>
      if b = true then te σ2 H3 fun y H4 => ∃ acc, H4 D = some (.lst acc) ∧ acc.length < sizeLine ∧ Pv (i + 1) (upd H4 D (.lst (acc ++ [y]))) else Pv (i + 1) H3) (hd : ∀ H, Pv xs.length H → Qd H) :
    ∃ W : Nat → Nat → Hp → Prop, (∃ m, W 0 m (upd H1 D (.lst []))) ∧ ∀ i m H, W i m H →
      ((RZ.ItzT K a b).stop i H ∧ Qd H) ∨ ((RZ.ItzT K a b).go i H ∧ ∃ Nx : Hp → Prop, (∀ H', Nx H' → ∃ m', m' < m ∧ W (i + 1) m' H') ∧ ∀ x H', (RZ.ItzT K a b).yld i H x H' → g x (wipe σ vs) H' fun σ2 H2 => wipe σ2 vs = wipe σ vs ∧ tt σ2 H2 fun b H3 =>
        if b = true then te σ2 H3 fun y H4 => ∃ acc, H4 D = some (.lst acc) ∧ acc.length < sizeLine ∧ Nx (upd H4 D (.lst (acc ++ [y]))) else Nx H3) := by
  refine ⟨fun i m H => m = xs.length - i ∧ i ≤ xs.length ∧ Pv i H, ⟨xs.length, rfl, Nat.zero_le _, h0⟩, ?_⟩
  rintro i m H ⟨rfl, hi, p⟩
  obtain ⟨qx, qy⟩ := hq i H p
  by_cases hlt : i < xs.length
  · have hx : xs[i]? = some xs[i] := List.getElem?_eq_getElem hlt
    have hlt2 : i < ys.length := by omega
    have hy : ys[i]? = some ys[i] := List.getElem?_eq_getElem hlt2
    refine .inr ⟨⟨xs, ys, _, _, qx, qy, hx, hy⟩, Pv (i + 1), fun H' p' => ⟨xs.length - (i + 1), by omega, rfl, hlt, p'⟩, fun v H' y => ?_⟩
    obtain ⟨T, x', y', rfl, hT, rfl, f1, f2⟩ := y
    exact hs i x' y' T H (f1 xs qx) (f2 ys qy) p hT
  · have e : i = xs.length := by omega
    subst e
    exact .inl ⟨⟨xs, ys, qx, qy, Or.inl (Nat.le_refl _)⟩, hd H p⟩
/-! ### unlike -/
def unlM (x y : List Int) : Int := (((List.range x.length).filter fun i => !decide (x.getD i 0 = y.getD i 0)).length : Int)
def spUnlike (K : PySem.W.Frag) : Sp := fun vs H Q _ => ∃ (a b : V) (x y : List Int), vs = [a, b] ∧ TI K H a x ∧ TI K H b y ∧ x.length = y.length ∧ x.length ≤ 100 ∧ ∀ H', Ext H H' → Q (.int (unlM x y)) H'
section
variable {P : Program} {w : World} {K : PySem.W.Frag} {mg : Str → Option Value} {base : Heap}
theorem ok_unlike (B : Bt mg) (D : Df K mg "unlike" sUnlike ["one", "other"]) : Cal P w K mg base 1 "unlike" ["one", "other"] (spUnlike K) := by
  refine D.ok scUnlike (fun vs H Q E h => ?_) (fun f cdv A outer s H vs Q E hr h => ?_)
  · obtain ⟨a, b, x, y, rfl, _⟩ := h
    rfl
  · obtain ⟨_, _, x, y, rfl, ⟨ta, rfl, hx⟩, ⟨tb, rfl, hy⟩, hl, hz, q⟩ := h
    refine ⟨_, pss_one (ps_ret (pe_callB call_len_seq (by rfl) B.len PySem.boot_len (pa_cons (pe_lc (own := [("first", 2), ("second", 3)]) (by rfl) scUnlike.nd (RZ.pi_zipA (by rfl) B.zip (pa_cons (pv 0) (pa_cons (pv 1) pa_nil)))
      (blkOk_by (N := ["one", "other", "first", "second"]) (sc := defScope sUnlike) (by decide +kernel)) (fun _ _ _ _ _ => pg_tupK (n := 2) K (by rfl) (pgs_cons (pg_name (i := 2) scUnlike.nd rfl (Or.inl rfl)) (pgs_cons (pg_name (i := 3) scUnlike.nd rfl (Or.inl rfl)) pgs_nil)))
      (fun _ _ _ _ _ => pts_one (pt_cmpR op_ne (pv 2) (pv 3) (nomark _))) (fun _ _ _ _ _ => pe_int)) pa_nil))), ?_⟩
    refine ⟨.ref ta, rfl, .ref tb, rfl, ta, tb, x.map V.int, y.map V.int, rfl, .inr ⟨hx, hy, fun D nD => ?_⟩⟩
    refine lc_zipT (xs := x.map V.int) (ys := y.map V.int) (by rw [List.length_map, List.length_map]; exact hl) (fun i H' => i ≤ x.length ∧ Cw H (fun i => !decide (x.getD i 0 = y.getD i 0)) (RI fun _ => 1) D i H') ⟨Nat.zero_le _, Cw.zero nD⟩ (fun i H' p => ⟨p.2.2.1.sqt hx, p.2.2.1.sqt hy⟩) ?_ ?_
    · rintro i v u T H' hv hu ⟨_, p⟩ nT
      obtain ⟨m, hm, rfl⟩ := get_map hv
      obtain ⟨n, hn, rfl⟩ := get_map hu
      have em : x.getD i 0 = m := by rw [List.getD_eq_getElem?_getD, hm]; rfl
      have en : y.getD i 0 = n := by rw [List.getD_eq_getElem?_getD, hn]; rfl
      have hi : i < x.length := (List.getElem?_eq_some_iff.mp hm).1
      obtain ⟨p1, p2, ys, p3, p4, p5⟩ := p
      have hTD : D ≠ T := ne_of_none p3 nT
      have pT : Cw H (fun i => !decide (x.getD i 0 = y.getD i 0)) (RI fun _ => 1) D i (upd H' T (.tup [.int m, .int n])) :=
        ⟨p1, p2.trans (Ext.new nT), ys, by rw [upd_ne hTD]; exact p3, L2.Paired.mapP p4 fun _ _ r => r, p5⟩
      refine ⟨T, [.int m, .int n], rfl, SqT.of upd_same, rfl, .int m, [.int n], rfl, .int n, [], rfl, rfl, rfl, ?_⟩
      have ct := cw_turn (tt := tTest (tOp rNe (tVar 2) (tVar 3))) (te := tC (.int 1)) (σ2 := [some (.ref ta), some (.ref tb), some (.int m), some (.int n)]) (RI.mono _) pT (by omega)
        (fun H3 e3 Q2 h2 => ⟨.int m, rfl, .int n, rfl, rfl, !decide (x.getD i 0 = y.getD i 0), by
          rw [em, en]
          by_cases hh : m = n
          · rw [decide_eq_true hh, hh, decide_eq_true rfl]
          · rw [decide_eq_false hh, decide_eq_false fun z => hh (V.int.inj z)], h2 H3 (Ext.refl H3)⟩)
        (fun H3 e3 _ _ Q2 h2 => h2 _ H3 (Ext.refl H3) rfl)
      obtain ⟨v1, hv1, v2, hv2, hsc, c, hc, hif⟩ := ct
      refine ⟨v1, hv1, v2, hv2, hsc, c, hc, ?_⟩
      by_cases hcc : c = true
      · rw [if_pos hcc] at hif ⊢
        obtain ⟨acc, h1, h2, h3⟩ := hif
        exact ⟨acc, h1, h2, by omega, h3⟩
      · rw [if_neg hcc] at hif ⊢
        exact ⟨by omega, hif⟩
    · rintro H' ⟨_, p1, p2, ys, p3, p4, p5⟩
      have ey := paired_RI (H := fun k y => hid D H') p4
      subst ey
      refine ⟨D, _, rfl, .inl (SqL.of p3), ?_⟩
      have e2 := q H' p2
      unfold unlM at e2
      rw [List.length_map, List.length_map, List.length_map]
      exact e2
end
/-! ### long_rounds -/
def prodM (p : Int) : Nat → Int
  | 0 => p
  | i + 1 => prodM p i * (1 + (i : Int))
def partM (w f : Nat) : Int := prodM (chooM ((w : Int) - 1) (f - 1)) (f - 1)
def totM (found : List Int) (w many : Nat) : Nat → Int
  | 0 => 0
  | i + 1 => totM found w many i + partM w (many + 1 + i) * found.getD (w - (many + 1 + i)) 0
def lrM (many : Nat) : Nat → List Int
  | 0 => [1]
  | i + 1 => lrM many i ++ [totM (lrM many i) (i + 1) many (i + 1 - many)]
theorem lrM_len (many : Nat) : ∀ i, (lrM many i).length = i + 1
  | 0 => rfl
  | i + 1 => by
    show (lrM many i ++ [_]).length = _
    rw [List.length_append, lrM_len many i]
    rfl
theorem partBd : ∀ w ≤ 3, ∀ f ≤ 3, -(2 ^ 64) < partM w f ∧ partM w f < 2 ^ 64 := by decide +kernel
def spLongRounds (K : PySem.W.Frag) : Sp := fun vs H Q _ => ∃ (n m : Nat), vs = [.int (n : Int), .int (m : Int)] ∧ n ≤ 3 ∧ 1 ≤ m ∧ m ≤ 3 ∧ ∀ H' l, Ext H H' → H l = none → H' l = some (.lst ((lrM m n).map V.int)) → Q (.ref l) H'
section
variable {P : Program} {w : World} {K : PySem.W.Frag} {mg : Str → Option Value} {base : Heap}
theorem ok_longRounds (B : Bt mg) (D : Df K mg "long_rounds" sLongRounds ["size", "many"]) (CC : Cal P w K mg base 1 "choices" ["whole", "part"] spChoices) : Cal P w K mg base 2 "long_rounds" ["size", "many"] (spLongRounds K) := by
  refine D.ok scLongRounds (fun vs H Q E h => ?_) (fun f cdv A outer s H vs Q E hr h => ?_)
  · obtain ⟨n, m, rfl, _⟩ := h
    rfl
  · obtain ⟨n, m, rfl, hn, hm1, hm3, q⟩ := h
    refine ⟨_, pss_cons (ps_set (i := 2) scLongRounds.nd rfl (.inl rfl) (pe_lst (pa_cons pe_int pa_nil)))
      (pss_cons (ps_for PassesOwn.never rfl (pi_range2 (by rfl) B.range (pa_cons pe_int (pa_cons (pe_op op_add (pv 0) pe_int) pa_nil))) (pg_name (i := 3) scLongRounds.nd rfl (.inl rfl))
        (pss_cons (ps_set (i := 4) scLongRounds.nd rfl (.inl rfl) pe_int)
        (pss_cons (ps_for PassesOwn.never rfl (pi_range2 (by rfl) B.range (pa_cons (pe_op op_add (pv 1) pe_int) (pa_cons (pe_op op_add (pv 3) pe_int) pa_nil))) (pg_name (i := 5) scLongRounds.nd rfl (.inl rfl))
          (pss_cons (ps_set (i := 6) scLongRounds.nd rfl (.inl rfl) (pe_c CC hr (by rfl) (pa_cons (pe_op op_sub (pv 3) pe_int) (pa_cons (pe_op op_sub (pv 5) pe_int) pa_nil))))
          (pss_cons (ps_for PassesOwn.never rfl (pi_range2 (by rfl) B.range (pa_cons pe_int (pa_cons (pv 5) pa_nil))) (pg_name (i := 7) scLongRounds.nd rfl (.inl rfl))
            (pss_one (ps_set (i := 6) scLongRounds.nd rfl (.inl rfl) (pe_op op_mul (pv 6) (pv 7)))))
          (pss_one (ps_set (i := 4) scLongRounds.nd rfl (.inl rfl) (pe_op op_add (pv 4) (pe_op op_mul (pv 6) (pe_ix ix_list (pv 2) (pe_op op_sub (pv 3) (pv 5)) (fun _ _ => rfl)))))))))
        (pss_one (ps_expr (pe_bm PySem.F.plainAttrs_list PySem.F.slot_list_append PySem.F.type_list_append mt_append (pv 2) (pa_cons (pv 4) pa_nil)))))))
      (pss_one (ps_ret (pv 2)))), ?_⟩
    refine ⟨by show 1 ≤ sizeLine; decide, fun l nl => ?_⟩
    refine ⟨.int (n : Int), rfl, (n : Int), 1, rfl, rfl, 1, (n : Int) + 1, rfl, ⟨by decide, by decide, by omega, by omega⟩, ?_⟩
    rw [show ((n : Int) + 1 - 1).toNat = n by omega]
    refine for_range (lo := 1) (n := n) (fun i σ H2 => i ≤ n ∧ ∃ o3 o4 o5 o6 o7, σ = [some (.int (n : Int)), some (.int (m : Int)), some (.ref l), o3, o4, o5, o6, o7] ∧ Ext H H2 ∧ H2 l = some (.lst ((lrM m i).map V.int)))
      ⟨Nat.zero_le _, _, _, _, _, _, rfl, Ext.new nl, upd_same⟩ ?_ ?_
    · rintro i σ H2 hi ⟨_, o3, o4, o5, o6, o7, rfl, e2, hl⟩
      have ew : (1 : Int) + (i : Int) = ((i + 1 : Nat) : Int) := by omega
      refine ⟨.int (m : Int), rfl, (m : Int), 1, rfl, rfl, .int (1 + (i : Int)), rfl, 1 + (i : Int), 1, rfl, rfl, (m : Int) + 1, 1 + (i : Int) + 1, rfl, ⟨by omega, by omega, by omega, by omega⟩, ?_⟩
      rw [show (1 + (i : Int) + 1 - ((m : Int) + 1)).toNat = i + 1 - m by omega]
      refine for_range (lo := (m : Int) + 1) (n := i + 1 - m) (fun j σ H3 => ∃ o5 o6 o7, σ = [some (.int (n : Int)), some (.int (m : Int)), some (.ref l), some (.int (1 + (i : Int))), some (.int (totM (lrM m i) (i + 1) m j)), o5, o6, o7] ∧ H3 = H2) ⟨_, _, _, rfl, rfl⟩ ?_ ?_
      · rintro j σ H3 hj ⟨o5, o6, o7, rfl, rfl⟩
        -- part = choices(whole - 1, first - 1)
        refine ⟨.int (1 + (i : Int)), rfl, 1 + (i : Int), 1, rfl, rfl, .int ((m : Int) + 1 + (j : Int)), rfl, (m : Int) + 1 + (j : Int), 1, rfl, rfl, 1 + (i : Int) - 1, (m : Int) + 1 + (j : Int) - 1, rfl, ⟨by omega, by omega⟩, by omega, by omega, ?_⟩
        -- for k in range(1, first): part = part * k
        refine ⟨.int ((m : Int) + 1 + (j : Int)), rfl, 1, (m : Int) + 1 + (j : Int), rfl, ⟨by decide, by decide, by omega, by omega⟩, ?_⟩
        rw [show ((m : Int) + 1 + (j : Int) - 1).toNat = m + 1 + j - 1 by omega]
        refine for_range (lo := 1) (n := m + 1 + j - 1) (fun k σ H4 => ∃ o7, σ = [some (.int (n : Int)), some (.int (m : Int)), some (.ref l), some (.int (1 + (i : Int))), some (.int (totM (lrM m i) (i + 1) m j)), some (.int ((m : Int) + 1 + (j : Int))), some (.int (prodM (chooM (1 + (i : Int) - 1) (m + 1 + j - 1)) k)), o7] ∧ H4 = H3) ⟨_, rfl, rfl⟩ ?_ ?_
        · rintro k σ H4 hk ⟨o7, rfl, rfl⟩
          exact ⟨_, rfl, _, rfl, _, _, rfl, rfl, .inr ⟨by omega, by omega⟩, _, rfl, rfl⟩
        · rintro σ H4 ⟨o7, rfl, rfl⟩
          have hp : prodM (chooM (1 + (i : Int) - 1) (m + 1 + j - 1)) (m + 1 + j - 1) = partM (i + 1) (m + 1 + j) := by
            unfold partM
            rw [ew]
          rw [hp]
          have bd := partBd (i + 1) (by omega) (m + 1 + j) (by omega)
          have hix : ∃ z, (lrM m i)[i + 1 - (m + 1 + j)]? = some z := ⟨_, List.getElem?_eq_getElem (by rw [lrM_len]; omega)⟩
          obtain ⟨z, hz⟩ := hix
          refine ⟨_, rfl, _, rfl, .ref l, rfl, .int (1 + (i : Int)), rfl, .int ((m : Int) + 1 + (j : Int)), rfl, _, _, rfl, rfl, l, _, _, .int z, rfl, rfl, SqL.of hl, ?_, _, z, rfl, rfl, .inl bd, _, _, rfl, rfl, ?_⟩
          · rw [show 1 + (i : Int) - ((m : Int) + 1 + (j : Int)) = ((i + 1 - (m + 1 + j) : Nat) : Int) by omega]
            exact atI_nat (map_get hz)
          · refine ⟨some (.int ((m : Int) + 1 + (j : Int))), some (.int (partM (i + 1) (m + 1 + j))), o7, ?_, rfl⟩
            show _ = [_, _, _, _, some (V.int (totM (lrM m i) (i + 1) m j + partM (i + 1) (m + 1 + j) * (lrM m i).getD (i + 1 - (m + 1 + j)) 0)), _, _, _]
            rw [List.getD_eq_getElem?_getD, hz]
            rfl
      · rintro σ H3 ⟨o5, o6, o7, rfl, rfl⟩
        refine ⟨.ref l, rfl, .inl ⟨rfl, _, SqL.of hl⟩, _, rfl, l, _, _, rfl, rfl, hl, szl (by rw [List.length_map, lrM_len]; omega), ?_⟩
        refine ⟨by omega, _, _, _, _, _, rfl, e2.mut nl, ?_⟩
        rw [upd_same]
        show _ = some (HO.lst ((lrM m i ++ [totM (lrM m i) (i + 1) m (i + 1 - m)]).map V.int))
        rw [List.map_append]
        rfl
    · rintro σ H2 ⟨_, o3, o4, o5, o6, o7, rfl, e2, hl⟩
      exact ⟨.ref l, rfl, q H2 l e2 nl hl⟩
end
/-! ### sure_count -/
def restM (n i : Nat) : Int := if i = n then 1 else (i : Int) * powM (n : Int) (n - i - 1)
def scGo (rings : List Int) (n : Nat) : Nat → Int
  | 0 => 0
  | i + 1 => scGo rings n i + chooM (n : Int) (i + 1) * rings.getD (i + 1) 0 * restM n (i + 1)
def sureCM (n m : Nat) : Int := if m = 0 then powM (n : Int) n else scGo (lrM m n) n n
theorem choBd : ∀ w ≤ 3, ∀ f ≤ 3, -(2 ^ 64) < chooM ((w : Nat) : Int) f ∧ chooM ((w : Nat) : Int) f < 2 ^ 64 := by decide +kernel
theorem restBd : ∀ w ≤ 3, ∀ f ≤ 3, -(2 ^ 64) < restM w f ∧ restM w f < 2 ^ 64 := by decide +kernel
def spSureCount : Sp := fun vs H Q _ => ∃ (n m : Nat), vs = [.int (n : Int), .int (m : Int)] ∧ 1 ≤ n ∧ n ≤ 3 ∧ m ≤ n ∧ ∀ H', Ext H H' → Q (.int (sureCM n m)) H'
section
variable {P : Program} {w : World} {K : PySem.W.Frag} {mg : Str → Option Value} {base : Heap}
theorem ok_sureCount (B : Bt mg) (T : Ct mg) (D : Df K mg "sure_count" sSureCount ["size", "many"]) (CN : Cal P w K mg base 2 "need_number" ["value", "least", "most"] spNeedNumber) (CP : Cal P w K mg base 1 "powered" ["base", "many"] spPowered)
    (CC : Cal P w K mg base 1 "choices" ["whole", "part"] spChoices) (CL : Cal P w K mg base 2 "long_rounds" ["size", "many"] (spLongRounds K)) : Cal P w K mg base 3 "sure_count" ["size", "many"] spSureCount := by
  refine D.ok scSureCount (fun vs H Q E h => ?_) (fun f cdv A outer s H vs Q E hr h => ?_)
  · obtain ⟨n, m, rfl, _⟩ := h
    rfl
  · obtain ⟨n, m, rfl, h1, h3, hm, q⟩ := h
    obtain ⟨tc, gc⟩ := T.counted
    have hr1 : Room 1 _ := hr.mono (by decide)
    refine ⟨_, pss_cons (ps_expr (pe_c CN hr (by rfl) (pa_cons (pv 0) (pa_cons pe_int (pa_cons (pe_glob (v := .int 60) (by rfl) gc ⟨_, rfl⟩) pa_nil)))))
      (pss_cons (ps_expr (pe_c CN hr (by rfl) (pa_cons (pv 1) (pa_cons pe_int (pa_cons (pv 0) pa_nil)))))
      (pss_cons (ps_if (pt_cmpR op_eq (pv 1) pe_int (nomark _)) (pss_one (ps_ret (pe_c CP hr1 (by rfl) (pa_cons (pv 0) (pa_cons (pv 0) pa_nil))))) pss_nil)
      (pss_cons (ps_par (i := 2) (j := 3) (by rfl) scSureCount.nd rfl rfl (by decide) rfl rfl (pa_cons (pe_c CL hr (by rfl) (pa_cons (pv 0) (pa_cons (pv 1) pa_nil))) (pa_cons pe_int pa_nil)) (by rfl))
      (pss_cons (ps_for PassesOwn.never rfl (pi_range2 (by rfl) B.range (pa_cons pe_int (pa_cons (pe_op op_add (pv 0) pe_int) pa_nil))) (pg_name (i := 4) scSureCount.nd rfl (.inl rfl))
        (pss_cons (ps_set (i := 5) scSureCount.nd rfl (.inl rfl) (pe_ifExp (pt_cmpR op_eq (pv 4) (pv 0) (nomark _)) pe_int (pe_op op_mul (pv 4) (pe_c CP hr1 (by rfl) (pa_cons (pv 0) (pa_cons (pe_op op_sub (pe_op op_sub (pv 0) (pv 4)) pe_int) pa_nil))))))
        (pss_one (ps_set (i := 3) scSureCount.nd rfl (.inl rfl) (pe_op op_add (pv 3) (pe_op op_mul (pe_op op_mul (pe_c CC hr1 (by rfl) (pa_cons (pv 0) (pa_cons (pv 4) pa_nil))) (pe_ix ix_list (pv 2) (pv 4) (fun _ _ => rfl))) (pv 5)))))))
      (pss_one (ps_ret (pv 3))))))), ?_⟩
    refine ⟨.int (n : Int), rfl, (n : Int), 1, 60, rfl, by omega, by omega, ?_⟩
    refine ⟨.int (m : Int), rfl, .int (n : Int), rfl, (m : Int), 0, (n : Int), rfl, by omega, by omega, ?_⟩
    refine ⟨.int (m : Int), rfl, rfl, decide (V.int (m : Int) = V.int 0), rfl, ?_⟩
    by_cases hm0 : m = 0
    · subst hm0
      rw [decide_eq_true (show V.int ((0 : Nat) : Int) = V.int 0 from rfl)]
      refine iteT ⟨.int (n : Int), rfl, .int (n : Int), rfl, (n : Int), n, rfl, ⟨by omega, by omega⟩, by omega, ?_⟩
      exact q H (Ext.refl H)
    · rw [decide_eq_false (fun z => hm0 (by have := V.int.inj z; omega))]
      refine iteF ⟨.int (n : Int), rfl, .int (m : Int), rfl, n, m, rfl, h3, by omega, by omega, fun H1 l e1 nl hl => ⟨.ref l, .int 0, rfl, ?_⟩⟩
      refine ⟨.int (n : Int), rfl, (n : Int), 1, rfl, rfl, 1, (n : Int) + 1, rfl, ⟨by decide, by decide, by omega, by omega⟩, ?_⟩
      rw [show ((n : Int) + 1 - 1).toNat = n by omega]
      refine for_range (lo := 1) (n := n) (fun i σ H2 => ∃ o4 o5, σ = [some (.int (n : Int)), some (.int (m : Int)), some (.ref l), some (.int (scGo (lrM m n) n i)), o4, o5] ∧ H2 = H1) ⟨_, _, rfl, rfl⟩ ?_ ?_
      · rintro i σ H2 hi ⟨o4, o5, rfl, rfl⟩
        have ew : (1 : Int) + (i : Int) = ((i + 1 : Nat) : Int) := by omega
        rw [ew]
        obtain ⟨z, hz⟩ : ∃ z, (lrM m n)[i + 1]? = some z := ⟨_, List.getElem?_eq_getElem (by rw [lrM_len]; omega)⟩
        have tail : ∀ σ', σ' = [some (.int (n : Int)), some (.int (m : Int)), some (.ref l), some (.int (scGo (lrM m n) n i)), some (.int ((i + 1 : Nat) : Int)), some (.int (restM n (i + 1)))] →
            (tAsg (tOp (rI0 fun i j => V.int (i + j)) (tVar 3) (tOp (rI CMul fun i j => V.int (i * j)) (tOp (rI CMul fun i j => V.int (i * j)) (tCl spChoices (tCons (tVar 0) (tCons (tVar 4) tNil))) (tOp (rIxL K) (tVar 2) (tVar 4))) (tVar 5))) (gName 3))
              { nx := fun σ H3 => ∃ o4 o5, σ = [some (.int (n : Int)), some (.int (m : Int)), some (.ref l), some (.int (scGo (lrM m n) n (i + 1))), o4, o5] ∧ H3 = H2, rt := Q } σ' H2 := by
          rintro σ' rfl
          refine ⟨_, rfl, .int (n : Int), rfl, .int ((i + 1 : Nat) : Int), rfl, (n : Int), ((i + 1 : Nat) : Int), rfl, ⟨by omega, by omega⟩, by omega, by omega, ?_⟩
          refine ⟨.ref l, rfl, .int ((i + 1 : Nat) : Int), rfl, l, _, _, .int z, rfl, rfl, SqL.of hl, atI_nat (map_get hz), _, z, rfl, rfl, .inl ?_, _, rfl, _, _, rfl, rfl, .inr (restBd n h3 (i + 1) (by omega)), _, _, rfl, rfl, ?_⟩
          · rw [Int.toNat_natCast]
            exact choBd n h3 (i + 1) (by omega)
          · refine ⟨some (.int ((i + 1 : Nat) : Int)), some (.int (restM n (i + 1))), ?_, rfl⟩
            rw [Int.toNat_natCast]
            show _ = [_, _, _, some (V.int (scGo (lrM m n) n i + chooM (n : Int) (i + 1) * (lrM m n).getD (i + 1) 0 * restM n (i + 1))), _, _]
            rw [List.getD_eq_getElem?_getD, hz]
            rfl
        refine ⟨.int ((i + 1 : Nat) : Int), rfl, .int (n : Int), rfl, rfl, decide (V.int ((i + 1 : Nat) : Int) = V.int (n : Int)), rfl, ?_⟩
        by_cases hin : i + 1 = n
        · rw [decide_eq_true (by rw [hin])]
          refine iteT (tail _ ?_)
          unfold restM
          rw [if_pos hin]
          rfl
        · rw [decide_eq_false (fun z => hin (by have := V.int.inj z; omega))]
          refine iteF ⟨.int ((i + 1 : Nat) : Int), rfl, .int (n : Int), rfl, .int (n : Int), rfl, .int ((i + 1 : Nat) : Int), rfl, _, _, rfl, rfl, _, 1, rfl, rfl, (n : Int), n - (i + 1) - 1, ?_, ⟨by omega, by omega⟩, by omega, _, _, rfl, rfl, .inl ⟨by omega, by omega⟩, tail _ ?_⟩
          · show [V.int (n : Int), V.int ((n : Int) - ((i + 1 : Nat) : Int) - 1)] = [V.int (n : Int), V.int ((n - (i + 1) - 1 : Nat) : Int)]
            rw [show ((n - (i + 1) - 1 : Nat) : Int) = (n : Int) - ((i + 1 : Nat) : Int) - 1 by omega]
          · unfold restM
            rw [if_neg hin]
            rfl
      · rintro σ H2 ⟨o4, o5, rfl, rfl⟩
        refine ⟨_, rfl, ?_⟩
        have e2 := q _ e1
        unfold sureCM at e2
        rw [if_neg hm0] at e2
        exact e2
end
end Ft
namespace PySem.SeqAt
open PySem
variable {A : Around} {s : Shared}
theorem ft_call_tuple_lt {prog : Program} {w : World} {E : Value → Shared → Prop} {Q : Value → Shared → Prop} {l b : Addr} {items items2 : Array Value} {e r : Nat → Bool} (hl : s.heap.IsTuple l items) (hb : s.heap.IsTuple b items2)
    (he : ∀ j (h1 : j < items.size) (h2 : j < items2.size), EqAt A.in1 s items[j] items2[j] (e j)) (hr : ∀ j (h1 : j < items.size) (h2 : j < items2.size), e j = false → RcLt A.in1 s items[j] items2[j] (r j))
    (h : Q (.bool (firstLt e r (decide (items.size < items2.size)) (List.range (min items.size items2.size)))) s) : wpAny (model prog w) A (call (.builtin "tuple.__lt__") [.ref l, .ref b]) Q E s := by
  obtain ⟨⟨cls, dd, data, sl⟩, ho, hc, n, hd⟩ := id hl
  obtain ⟨⟨cls2, dd2, data2, sl2⟩, ho2, hc2, n2, hd2⟩ := id hb
  simp only at hc hd hc2 hd2
  subst hc hd hc2 hd2
  exact call_meets F.slot_tuple_lt ⟨_, ho, rfl⟩ F.entry_tuple_lt (F.args_tuple_lt_2 _ _) (tuple_ltAt l b items items2 n n2 dd dd2 sl sl2 e r) ⟨ho, ho2, he, hr, h⟩
end PySem.SeqAt
namespace PySem.W
open PySem PySem.SeqAt PySem.Calls PyProof.Rows
section
variable {prog : Program} {w : World} {A : Around} {E : Value → Shared → Prop} {s : Shared}
theorem ft_oneLt_tup {xs ys : List PyData} {a b : Value} {as bs : List Addr} {Q : Bool → Shared → Prop} (ra : Reads s.heap a (.tuple xs) as) (rb : Reads s.heap b (.tuple ys) bs) (h : alike (.tuple xs) (.tuple ys) = true)
    (hu : A.units + min (PyData.tuple xs).depth (PyData.tuple ys).depth < cLine) (hq : Q (dataLt (.tuple xs) (.tuple ys)) s) : wpAny (model prog w) A (oneLt' true a b) Q E s := by
  have hal : alikeAll xs ys = true := by simpa [alike] using h
  cases ra with
  | @tuple l o vs n _ as₁ h1 h2 h3 h4 =>
    cases rb with
    | @tuple l' o' vs' n' _ bs₁ k1 k2 k3 k4 =>
      have n1 : vs.size = xs.length := by simpa using ReadsAll.length _ _ _ h4
      have n2 : vs'.size = ys.length := by simpa using ReadsAll.length _ _ _ k4
      rw [dataLt_tuple, ← firstLt_toks xs ys hal, ← n1, ← n2] at hq
      rw [oneLt'_eq]
      simp only [if_true]
      refine wpAny_bind (wpAny_cRoomFor (room_here hu) ?_)
      refine wpAny_bind (wpAny_callSpecialIfBound?_slot (T := "tuple") ⟨_, h1, h2⟩ F.slot_tuple_lt (ft_call_tuple_lt (e := pairEq xs ys) (r := fun j => dataLt (xs.getD j .none) (ys.getD j .none)) ⟨_, h1, h2, _, h3⟩ ⟨_, k1, k2, _, k3⟩ (fun j j1 j2 => ?_) (fun j j1 j2 hj => ?_) ?_))
      · have := eqAt_alikeAll xs ys A.in1 s vs.toList vs'.toList _ _ h4 k4 hal (room_in hu) j (by simpa using j1) (by simpa using j2)
        simpa using this
      · have := rcLt_alikeAll xs ys A.in1 s vs.toList vs'.toList _ _ h4 k4 hal (room_in hu) j (by simpa using j1) (by simpa using j2) hj
        simpa using this
      · exact wpAny_truthy_bool hq
/-- a tuple of the heap -/
def FtTup (h : Heap) (v : Value) : Prop := ∃ a o xs n, v = .ref a ∧ h.get? a = some o ∧ o.cls = .type "tuple" ∧ o.data = .seq xs n
theorem ft_first {v : Value} {Q : Option Value → Shared → Prop} {M : Model} (h : ∃ a o xs n, v = .ref a ∧ s.heap.get? a = some o ∧ o.cls = .type "tuple" ∧ o.data = .seq xs n ∧ Q xs[0]? s) : wpAny M A (firstOfTuple' v) Q E s := by
  obtain ⟨a, o, xs, n, rfl, ho, hc, hd, hq⟩ := h
  rw [kas_first_eq]
  refine wpAny_bind (Looks.here (show Looks M s.heap (typeOf (.ref a)) o.cls from (Looks.ld ho).andThen .now) ?_)
  rw [hc, if_neg (by first | decide | simp)]
  exact wpAny_bind (listItems_at ho hd (wpAny_pure hq))
theorem ft_firsts {M : Model} : ∀ (vs : List Value) {Q : List (Option Value) → Shared → Prop}, (∀ v ∈ vs, FtTup s.heap v) → (∀ fs, Q fs s) → wpAny M A (vs.mapM firstOfTuple') Q E s
  | [], _, _, h => by rw [List.mapM_nil]; exact wpAny_pure (h _)
  | v :: vs, Q, ht, h => by
    rw [List.mapM_cons]
    obtain ⟨a, o, xs, n, e1, e2, e3, e4⟩ := ht v List.mem_cons_self
    refine wpAny_bind (ft_first ⟨a, o, xs, n, e1, e2, e3, e4, ?_⟩)
    exact wpAny_bind (ft_firsts vs (Q := fun bs s' => wpAny M A (pure (xs[0]? :: bs)) Q E s') (fun v hv => ht v (List.mem_cons_of_mem _ hv)) fun fs => wpAny_pure (h _))
theorem ft_kind {v₁ v₂ : Value} {rest : List Value} {Q : SortKind → Shared → Prop} {M : Model} (h0 : ∃ a o n, v₁ = .ref a ∧ s.heap.get? a = some o ∧ o.cls = .type "tuple" ∧ o.data = .seq #[] n) (ht : ∀ v ∈ v₂ :: rest, FtTup s.heap v) (h : Q oneType' s) :
    wpAny M A (keyKind' (v₁ :: v₂ :: rest).toArray) Q E s := by
  obtain ⟨a, o, n, e1, e2, e3, e4⟩ := h0
  have hall : ∀ v ∈ v₁ :: v₂ :: rest, Looks M s.heap (typeOf v) (.type "tuple") := by
    intro v hv
    rcases List.mem_cons.mp hv with rfl | hv
    · rw [e1, ← e3]
      exact (Looks.ld e2).andThen .now
    · obtain ⟨a', o', xs', n', f1, f2, f3, f4⟩ := ht v hv
      rw [f1, ← f3]
      exact (Looks.ld f2).andThen .now
  rw [keyKind'_eq, List.mapM_toArray, map_eq_pure_bind]
  refine wpAny_bind (wpAny_bind ?_)
  rw [List.mapM_cons]
  refine wpAny_bind (ft_first ⟨a, o, #[], n, e1, e2, e3, e4, ?_⟩)
  refine wpAny_bind (ft_firsts (v₂ :: rest) ht fun fs => ?_)
  refine wpAny_pure (wpAny_pure ?_)
  rw [if_neg (by simp), if_neg (by simp)]
  rw [oneTypeOnly'_eq, List.mapM_toArray, map_eq_pure_bind]
  refine wpAny_bind (wpAny_bind (wpAny_bind (kas_mapM (r := Value.type "tuple") _ (fun v hv Q' hq => (hall v hv).here hq) (wpAny_pure ?_))))
  have hall2 : ((List.map (fun _ => Value.type "tuple") (v₁ :: v₂ :: rest)).toArray.all fun x => x == Value.type "tuple") = true := by
    simp only [List.all_toArray, List.all_map, List.all_eq_true]
    intro _ _
    rfl
  have h0' : (List.map (fun _ => Value.type "tuple") (v₁ :: v₂ :: rest)).toArray[0]? = some (Value.type "tuple") := by simp
  rw [h0']
  simp only [hall2, if_true]
  exact wpAny_pure (wpAny_pure h)
theorem ft_reads_tup {h : Heap} {v : Value} {xs : List PyData} {as : List Addr} (r : Reads h v (.tuple xs) as) : FtTup h v := by
  cases r with
  | @tuple l o vs n _ as₁ h1 h2 h3 h4 => exact ⟨l, o, vs, n, rfl, h1, h2, h3⟩
/-- tuples, the first one empty, can be sorted -/
theorem SortsAt.ft {vs : List Value} {ds : List PyData} (e : EachIs (fun v d => ∃ as, Reads s.heap v d as) vs (.tuple [] :: ds)) (hal : AllAlike (.tuple [] :: ds)) (ht : ∀ d, d ∈ PyData.tuple [] :: ds → ∃ xs, d = .tuple xs)
    (hu : ∀ d, d ∈ PyData.tuple [] :: ds → A.units + d.depth < cLine) : SortsAt prog w A s (dataKind s.heap (.tuple [] :: ds)) vs := by
  have room : ∀ {d d' : PyData}, d ∈ PyData.tuple [] :: ds → A.units + min d.depth d'.depth < cLine := fun {d d'} hd => Nat.lt_of_le_of_lt (Nat.add_le_add_left (Nat.min_le_left _ _) _) (hu d hd)
  refine ⟨fun v hv => ?_, oneType', ?_, fun h2 E Q hq => ?_⟩
  · obtain ⟨d, hd, as, r⟩ := e.left v hv
    exact ⟨_, dataKind_some hal hd r⟩
  · intro E x y a b Q ha hb hq
    obtain ⟨d, as, hd, ra, rfl⟩ := dataKind_inv ha
    obtain ⟨d', as', hd', rb, rfl⟩ := dataKind_inv hb
    obtain ⟨xs, rfl⟩ := ht d hd
    obtain ⟨ys, rfl⟩ := ht d' hd'
    rw [keyLt'_oneType]
    exact ft_oneLt_tup ra rb (hal _ hd _ hd') (room hd) hq
  · cases e with
    | @cons v₁ _ vr _ r1 t1 =>
      obtain ⟨as, r1⟩ := r1
      cases t1 with
      | nil => exact absurd h2 (by simp)
      | @cons v₂ d₂ vr2 dr2 r2 t2 =>
        refine ft_kind ?_ (fun v hv => ?_) hq
        · cases r1 with
          | @tuple l o vs n _ as₁ g1 g2 g3 g4 =>
            cases q : vs.toList with
            | nil =>
              have hv : vs = #[] := by simpa using q
              subst hv
              exact ⟨l, o, n, rfl, g1, g2, g3⟩
            | cons x r =>
              rw [q] at g4
              cases g4
        · obtain ⟨d, hd, as, r⟩ := (EachIs.cons r2 t2).left v hv
          obtain ⟨xs, rfl⟩ := ht d (List.mem_cons_of_mem _ hd)
          exact ft_reads_tup r
/-- sorted(xs) of such -/
theorem ft_sorted {β : Type} {vs : List Value} {b0 : β} {bs : List β} {enc : β → PyData} {R : Value → β → Prop} {l : Addr} {Q : Value → Shared → Prop} (hl : s.heap.IsList l vs.toArray) (e : EachIs R vs (b0 :: bs)) (er : EachIs (fun v b => ∃ as, Reads s.heap v (enc b) as) vs (b0 :: bs)) (he0 : enc b0 = .tuple [])
    (hal : AllAlike ((b0 :: bs).map enc)) (ht : ∀ b, ∃ xs, enc b = .tuple xs) (hL : (b0 :: bs).length ≤ sizeLine)
    (hu : ∀ b, b ∈ b0 :: bs → A.units + 2 + (enc b).depth < cLine) (h : ∀ out, out.length = (b0 :: bs).length → EachIs R out ((b0 :: bs).mergeSort (dataLe false enc)) → Q (.ref (s.heap.objs.size + 1)) { s with heap := sortedAll s.heap vs (List.toArray out) }) :
    wpAny (model prog w) A (call (.builtin "sorted") [.ref l]) Q E s := by
  have er' : EachIs (fun v b => ∃ as, Reads (sortingHeap (copyHeap s.heap vs) (s.heap.objs.size + 1) vs) v (enc b) as) vs (b0 :: bs) := er.mono fun _ _ ⟨as, r⟩ => ⟨as, PyProof.Rows.Reads.keeps (fun _ _ => sorting_copy_old) r⟩
  have em : (b0 :: bs).map enc = .tuple [] :: bs.map enc := by rw [List.map_cons, he0]
  have e3 := each_map (R := fun v d => ∃ as, Reads (sortingHeap (copyHeap s.heap vs) (s.heap.objs.size + 1) vs) v d as) enc er'
  have hb := bound_map (A := A.in1.in1) (enc := enc) (bs := b0 :: bs) hu
  have hal2 := hal
  rw [em] at e3 hal2 hb
  have S := SortsAt.ft (prog := prog) (w := w) (A := A.in1.in1) (s := { s with heap := sortingHeap (copyHeap s.heap vs) (s.heap.objs.size + 1) vs }) e3 hal2 (fun d hd => by
    rw [← em] at hd
    obtain ⟨b, _, rfl⟩ := List.mem_map.mp hd
    exact ht b) hb
  rw [← em] at S
  exact sorted_vals hl S (by rw [e.length]; exact hL) (h _ (by rw [sortVals_length false rfl]; exact e.length) (sortVals_data false e er' hal))
end
end PySem.W
namespace Ft
open PySem PySem.Spec PyProof.Rows L2
/-! ### sorted of tuples of ints, the first one empty -/
def tupD (ns : List Int) : PyData := .tuple (ns.map .int)
theorem dpAll_ints {K : PySem.W.Frag} {H : Hp} : ∀ ns : List Int, DpAll K H (ns.map V.int) (ns.map .int)
  | [] => .nil
  | n :: r => .cons (.int n) (dpAll_ints r)
theorem TI.dp {K : PySem.W.Frag} {H : Hp} {v : V} {ns : List Int} (h : TI K H v ns) : Dp K H v (tupD ns) := by
  obtain ⟨t, rfl, h⟩ := h
  exact .tup h (dpAll_ints ns)
theorem depth_tupD (ns : List Int) : (tupD ns).depth ≤ 1 := by
  have h : PyData.depthAll (ns.map .int) = 0 := PySem.W.depth_ints ns
  show PyData.depth (.tuple (ns.map .int)) ≤ 1
  simp only [PyData.depth]
  omega
theorem alike_tupD (a b : List Int) : PySem.W.alike (tupD a) (tupD b) = true := by
  show PySem.W.alike (.tuple (a.map .int)) (.tuple (b.map .int)) = true
  rw [PySem.W.alike]
  exact PySem.W.alike_ints a b
def rSortL (K : PySem.W.Frag) : List V → Hp → VK → Prop := fun vs H Q => ∃ (a : Addr) (ys : List V) (L : List (List Int)), vs = [.ref a] ∧ SqL K H a ys ∧ LT K H ys ([] :: L) ∧ L.length ≤ 900 ∧
  ∀ p zs, H p = none → LT K H zs (([] :: L).mergeSort (PySem.W.dataLe false tupD)) → Q (.ref p) (upd H p (.lst zs))
section
variable {X : Cx} {pins : List (Addr × Obj)} {σ : L2.St} {H : Hp} {s : Shared}
theorem each_of_LT : ∀ {ys : List V} {L : List (List Int)} {us : List Value}, LT X.K H ys L → Vals ys us → PySem.W.EachIs (fun v ns => TI X.K H (bkV v) ns ∧ ∃ a, v = .ref a) us L
  | _, _, _, .nil, .nil => .nil
  | _, _, _, .cons r t, .cons r' t' => by
    refine .cons ?_ (each_of_LT t t')
    obtain ⟨a, rfl, h⟩ := r
    cases r'
    exact ⟨⟨a, rfl, h⟩, a, rfl⟩
theorem LT_of_each : ∀ {L : List (List Int)} {us : List Value}, PySem.W.EachIs (fun v ns => TI X.K H (bkV v) ns ∧ ∃ a, v = .ref a) us L → LT X.K H (us.map bkV) L
  | _, _, .nil => .nil
  | _, _, .cons r t => .cons r.1 (LT_of_each t)
theorem reads_of_each (I : Inv X pins σ H s) : ∀ {L : List (List Int)} {us : List Value}, PySem.W.EachIs (fun v ns => TI X.K H (bkV v) ns ∧ ∃ a, v = .ref a) us L → PySem.W.EachIs (fun v b => ∃ as, Reads s.heap v (tupD b) as) us L
  | _, _, .nil => .nil
  | _, _, .cons r t => by
    refine .cons ?_ (reads_of_each I t)
    obtain ⟨h, a, rfl⟩ := r
    exact Dp.reads I _ _ _ h.dp rfl
theorem cr_sortL {k : Nat} (hr : Room k X.A) : CallR X (.builtin "sorted") (rSortL X.K) := by
  intro pins s σ H vs us Q I r h
  obtain ⟨a, ys, L, rfl, hs, hL, hlen, q⟩ := h
  obtain ⟨its, rv, hl, hz⟩ := I.list hs
  rw [Vals.ref1 r]
  have e := each_of_LT hL rv
  have hz2 : ([] :: L).length ≤ sizeLine := by rw [List.length_cons]; exact sz (by omega)
  refine PySem.W.ft_sorted (enc := tupD) (b0 := []) (bs := L) hl.isList e (reads_of_each I e) rfl ?_ (fun b => ⟨_, rfl⟩) hz2 (fun b _ => ?_) fun out h1 h2 => ?_
  · intro d hd d' hd'
    obtain ⟨b, _, rfl⟩ := List.mem_map.mp hd
    obtain ⟨b', _, rfl⟩ := List.mem_map.mp hd'
    exact alike_tupD b b'
  · have h1 := hr.units
    have h2 := depth_tupD b
    omega
  · obtain ⟨ep, he'⟩ := PyProof.Rows.sortedAll_at s.heap its out.toArray
    have h3 : ∀ u ∈ out, ∃ a, u = Value.ref a := fun u hu => by
      obtain ⟨b, _, hb⟩ := h2.left u hu
      exact hb.2
    have hlen : (out.map bkV).length ≤ sizeLine := by
      rw [List.length_map, h1]
      exact hz2
    exact ⟨.ref _, upd H (s.heap.objs.size + 1) (.lst (out.map bkV)), I.laid (t' := s.toks) (fun _ _ => PyProof.Rows.sortedAll_old) (Nat.le_succ _) ⟨hlen, out, ep, bkV_vals h3, he'⟩, rfl, q _ _ (I.hok.fresh (Nat.le_succ _)) (LT_of_each h2)⟩
end
def lotsRaw : Nat → List (List Int)
  | 0 => [[]]
  | i + 1 => lotsRaw i ++ (lotsRaw i).map (· ++ [(i : Int)])
def lotsM : Nat → List (List Int)
  | 0 => [[]]
  | 1 => [[], [0]]
  | 2 => [[], [0], [0, 1], [1]]
  | _ => [[], [0], [0, 1], [0, 1, 2], [0, 2], [1], [1, 2], [2]]
theorem le_0_1 : PySem.W.dataLe false tupD [] [0] = true := by decide
theorem le_0_2 : PySem.W.dataLe false tupD [] [0, 1] = true := by decide
theorem le_0_3 : PySem.W.dataLe false tupD [] [0, 1, 2] = true := by decide
theorem le_0_4 : PySem.W.dataLe false tupD [] [0, 2] = true := by decide
theorem le_0_5 : PySem.W.dataLe false tupD [] [1] = true := by decide
theorem le_0_6 : PySem.W.dataLe false tupD [] [1, 2] = true := by decide
theorem le_0_7 : PySem.W.dataLe false tupD [] [2] = true := by decide
theorem le_1_0 : PySem.W.dataLe false tupD [0] [] = false := by decide
theorem le_1_2 : PySem.W.dataLe false tupD [0] [0, 1] = true := by decide
theorem le_1_3 : PySem.W.dataLe false tupD [0] [0, 1, 2] = true := by decide
theorem le_1_4 : PySem.W.dataLe false tupD [0] [0, 2] = true := by decide
theorem le_1_5 : PySem.W.dataLe false tupD [0] [1] = true := by decide
theorem le_1_6 : PySem.W.dataLe false tupD [0] [1, 2] = true := by decide
theorem le_1_7 : PySem.W.dataLe false tupD [0] [2] = true := by decide
theorem le_2_0 : PySem.W.dataLe false tupD [0, 1] [] = false := by decide
theorem le_2_1 : PySem.W.dataLe false tupD [0, 1] [0] = false := by decide
theorem le_2_3 : PySem.W.dataLe false tupD [0, 1] [0, 1, 2] = true := by decide
theorem le_2_4 : PySem.W.dataLe false tupD [0, 1] [0, 2] = true := by decide
theorem le_2_5 : PySem.W.dataLe false tupD [0, 1] [1] = true := by decide
theorem le_2_6 : PySem.W.dataLe false tupD [0, 1] [1, 2] = true := by decide
theorem le_2_7 : PySem.W.dataLe false tupD [0, 1] [2] = true := by decide
theorem le_3_0 : PySem.W.dataLe false tupD [0, 1, 2] [] = false := by decide
theorem le_3_1 : PySem.W.dataLe false tupD [0, 1, 2] [0] = false := by decide
theorem le_3_2 : PySem.W.dataLe false tupD [0, 1, 2] [0, 1] = false := by decide
theorem le_3_4 : PySem.W.dataLe false tupD [0, 1, 2] [0, 2] = true := by decide
theorem le_3_5 : PySem.W.dataLe false tupD [0, 1, 2] [1] = true := by decide
theorem le_3_6 : PySem.W.dataLe false tupD [0, 1, 2] [1, 2] = true := by decide
theorem le_3_7 : PySem.W.dataLe false tupD [0, 1, 2] [2] = true := by decide
theorem le_4_0 : PySem.W.dataLe false tupD [0, 2] [] = false := by decide
theorem le_4_1 : PySem.W.dataLe false tupD [0, 2] [0] = false := by decide
theorem le_4_2 : PySem.W.dataLe false tupD [0, 2] [0, 1] = false := by decide
theorem le_4_3 : PySem.W.dataLe false tupD [0, 2] [0, 1, 2] = false := by decide
theorem le_4_5 : PySem.W.dataLe false tupD [0, 2] [1] = true := by decide
theorem le_4_6 : PySem.W.dataLe false tupD [0, 2] [1, 2] = true := by decide
theorem le_4_7 : PySem.W.dataLe false tupD [0, 2] [2] = true := by decide
theorem le_5_0 : PySem.W.dataLe false tupD [1] [] = false := by decide
theorem le_5_1 : PySem.W.dataLe false tupD [1] [0] = false := by decide
theorem le_5_2 : PySem.W.dataLe false tupD [1] [0, 1] = false := by decide
theorem le_5_3 : PySem.W.dataLe false tupD [1] [0, 1, 2] = false := by decide
theorem le_5_4 : PySem.W.dataLe false tupD [1] [0, 2] = false := by decide
theorem le_5_6 : PySem.W.dataLe false tupD [1] [1, 2] = true := by decide
theorem le_5_7 : PySem.W.dataLe false tupD [1] [2] = true := by decide
theorem le_6_0 : PySem.W.dataLe false tupD [1, 2] [] = false := by decide
theorem le_6_1 : PySem.W.dataLe false tupD [1, 2] [0] = false := by decide
theorem le_6_2 : PySem.W.dataLe false tupD [1, 2] [0, 1] = false := by decide
theorem le_6_3 : PySem.W.dataLe false tupD [1, 2] [0, 1, 2] = false := by decide
theorem le_6_4 : PySem.W.dataLe false tupD [1, 2] [0, 2] = false := by decide
theorem le_6_5 : PySem.W.dataLe false tupD [1, 2] [1] = false := by decide
theorem le_6_7 : PySem.W.dataLe false tupD [1, 2] [2] = true := by decide
theorem le_7_0 : PySem.W.dataLe false tupD [2] [] = false := by decide
theorem le_7_1 : PySem.W.dataLe false tupD [2] [0] = false := by decide
theorem le_7_2 : PySem.W.dataLe false tupD [2] [0, 1] = false := by decide
theorem le_7_3 : PySem.W.dataLe false tupD [2] [0, 1, 2] = false := by decide
theorem le_7_4 : PySem.W.dataLe false tupD [2] [0, 2] = false := by decide
theorem le_7_5 : PySem.W.dataLe false tupD [2] [1] = false := by decide
theorem le_7_6 : PySem.W.dataLe false tupD [2] [1, 2] = false := by decide
theorem lots_sort1 : (lotsRaw 1).mergeSort (PySem.W.dataLe false tupD) = lotsM 1 := by
  simp [lotsRaw, List.mergeSort, lotsM, List.MergeSort.Internal.splitInTwo, List.merge, le_0_1, le_0_2, le_0_3, le_0_4, le_0_5, le_0_6, le_0_7, le_1_0, le_1_2, le_1_3, le_1_4, le_1_5, le_1_6, le_1_7, le_2_0, le_2_1, le_2_3, le_2_4, le_2_5, le_2_6, le_2_7, le_3_0, le_3_1, le_3_2, le_3_4, le_3_5, le_3_6, le_3_7, le_4_0, le_4_1, le_4_2, le_4_3, le_4_5, le_4_6, le_4_7, le_5_0, le_5_1, le_5_2, le_5_3, le_5_4, le_5_6, le_5_7, le_6_0, le_6_1, le_6_2, le_6_3, le_6_4, le_6_5, le_6_7, le_7_0, le_7_1, le_7_2, le_7_3, le_7_4, le_7_5, le_7_6]
theorem lots_sort2 : (lotsRaw 2).mergeSort (PySem.W.dataLe false tupD) = lotsM 2 := by
  simp [lotsRaw, List.mergeSort, lotsM, List.MergeSort.Internal.splitInTwo, List.merge, le_0_1, le_0_2, le_0_3, le_0_4, le_0_5, le_0_6, le_0_7, le_1_0, le_1_2, le_1_3, le_1_4, le_1_5, le_1_6, le_1_7, le_2_0, le_2_1, le_2_3, le_2_4, le_2_5, le_2_6, le_2_7, le_3_0, le_3_1, le_3_2, le_3_4, le_3_5, le_3_6, le_3_7, le_4_0, le_4_1, le_4_2, le_4_3, le_4_5, le_4_6, le_4_7, le_5_0, le_5_1, le_5_2, le_5_3, le_5_4, le_5_6, le_5_7, le_6_0, le_6_1, le_6_2, le_6_3, le_6_4, le_6_5, le_6_7, le_7_0, le_7_1, le_7_2, le_7_3, le_7_4, le_7_5, le_7_6]
theorem lots_sort3 : (lotsRaw 3).mergeSort (PySem.W.dataLe false tupD) = lotsM 3 := by
  simp [lotsRaw, List.mergeSort, lotsM, List.MergeSort.Internal.splitInTwo, List.merge, le_0_1, le_0_2, le_0_3, le_0_4, le_0_5, le_0_6, le_0_7, le_1_0, le_1_2, le_1_3, le_1_4, le_1_5, le_1_6, le_1_7, le_2_0, le_2_1, le_2_3, le_2_4, le_2_5, le_2_6, le_2_7, le_3_0, le_3_1, le_3_2, le_3_4, le_3_5, le_3_6, le_3_7, le_4_0, le_4_1, le_4_2, le_4_3, le_4_5, le_4_6, le_4_7, le_5_0, le_5_1, le_5_2, le_5_3, le_5_4, le_5_6, le_5_7, le_6_0, le_6_1, le_6_2, le_6_3, le_6_4, le_6_5, le_6_7, le_7_0, le_7_1, le_7_2, le_7_3, le_7_4, le_7_5, le_7_6]
theorem lots_sort {n : Nat} (h1 : 1 ≤ n) (h3 : n ≤ 3) : (lotsRaw n).mergeSort (PySem.W.dataLe false tupD) = lotsM n := by
  have h : n = 1 ∨ n = 2 ∨ n = 3 := by omega
  rcases h with rfl | rfl | rfl
  · exact lots_sort1
  · exact lots_sort2
  · exact lots_sort3
end Ft
namespace Ft
open PySem PySem.Spec PyProof.Rows L2
theorem lotsRaw_len : ∀ n ≤ 3, (lotsRaw n).length ≤ 8 := by decide +kernel
theorem lotsRaw_sl : ∀ n ≤ 3, ∀ s ∈ lotsRaw n, s.length ≤ 3 := by decide +kernel
theorem lotsRaw_head : ∀ n, ∃ L, lotsRaw n = [] :: L
  | 0 => ⟨_, rfl⟩
  | n + 1 => by
    obtain ⟨L, e⟩ := lotsRaw_head n
    exact ⟨L ++ (lotsRaw n).map (· ++ [(n : Int)]), by show lotsRaw n ++ _ = _; rw [e]; rfl⟩
/-! ### all_lots, _law_lots -/
def spAllLots (K : PySem.W.Frag) : Sp := fun vs H Q _ => ∃ n : Nat, vs = [.int (n : Int)] ∧ 1 ≤ n ∧ n ≤ 3 ∧ ∀ H' l ys, Ext H H' → H l = none → H' l = some (.lst ys) → LT K H' ys (lotsM n) → Q (.ref l) H'
section
variable {X : Cx}
theorem op_catAK (K : PySem.W.Frag) (h : X.K = K := by rfl) : OpR X (binaryOp .Add) (rCatA K) := by subst h; exact op_catA
end
theorem LT.snoc_map {K : PySem.W.Frag} {H : Hp} {f : Nat → List Int} {l : List Nat} {ys : List V} (h : Paired (fun k y => RT K f k y H) l ys) : LT K H ys (l.map f) := paired_RT h
theorem range_map_get {L : List (List Int)} {g : List Int → List Int} : (List.range L.length).map (fun i => g (L.getD i [])) = L.map g := by
  apply List.ext_getElem
  · rw [List.length_map, List.length_map, List.length_range]
  · intro i h1 h2
    rw [List.length_map, List.length_range] at h1
    rw [List.getElem_map, List.getElem_map, List.getElem_range, List.getD_eq_getElem?_getD, List.getElem?_eq_getElem h1]
    rfl
theorem catA_ints {K : PySem.W.Frag} {H : Hp} {a b : Addr} {xs ys : List Int} {Q : VK} (hx : SqT K H a (xs.map V.int)) (hy : SqT K H b (ys.map V.int)) (hl : xs.length + ys.length ≤ 1000)
    (q : ∀ H' T, Ext H H' → SqT K H' T ((xs ++ ys).map V.int) → Q (.ref T) H') : rCatA K (.ref a) (.ref b) H Q := by
  refine ⟨a, b, xs.map V.int, ys.map V.int, rfl, rfl, hx, hy, ?_, fun e => ?_, fun _ e => ?_, fun _ _ p np => ?_⟩
  · rw [List.length_map, List.length_map]
    exact sz hl
  · have e2 : xs = [] := List.map_eq_nil_iff.mp e
    subst e2
    exact q H b (Ext.refl H) hy
  · have e2 : ys = [] := List.map_eq_nil_iff.mp e
    subst e2
    rw [List.append_nil] at q
    exact q H a (Ext.refl H) hx
  · refine q _ p (Ext.new np) (SqT.of ?_)
    rw [upd_same, List.map_append]
section
variable {P : Program} {w : World} {K : PySem.W.Frag} {mg : Str → Option Value} {base : Heap}
theorem ok_allLots (B : Bt mg) (D : Df K mg "all_lots" sAllLots ["size"]) : Cal P w K mg base 1 "all_lots" ["size"] (spAllLots K) := by
  refine D.ok scAllLots (fun vs H Q E h => ?_) (fun f cdv A outer s H vs Q E hr h => ?_)
  · obtain ⟨n, rfl, _⟩ := h
    rfl
  · obtain ⟨n, rfl, hn1, hn, q⟩ := h
    refine ⟨_, pss_cons (ps_set (i := 1) scAllLots.nd rfl (.inl rfl) (pe_lst (pa_cons (pe_tup pa_nil) pa_nil)))
      (pss_cons (ps_for PassesOwn.never rfl (pi_range1 (by rfl) B.range (pa_cons (pv 0) pa_nil)) (pg_name (i := 2) scAllLots.nd rfl (.inr rfl))
        (pss_one (ps_set (i := 1) scAllLots.nd rfl (.inl rfl) (pe_op op_cat (pv 1) (pe_lc (own := [("lot", 3)]) (g := gName 3) (tt := tYes) (by rfl) scAllLots.nd (pi_list (pv 1))
            (blkOk_by (N := ["size", "found", "person", "lot"]) (sc := defScope sAllLots) (by decide +kernel)) (fun _ _ _ _ _ => pg_name (i := 3) scAllLots.nd rfl (Or.inl rfl)) (fun _ _ _ _ _ => pts_nil)
            (fun _ _ _ _ _ => pe_tup (pa_starK K (pv 3) (pa_cons (pv 2) pa_nil))))))))
      (pss_one (ps_ret (pe_callB (cr_sortL hr) (by rfl) B.sorted PyProof.Rows.boot_sorted (pa_cons (pv 1) pa_nil))))), ?_⟩
    refine ⟨Nat.zero_le _, fun t0 n0 => ⟨by show 1 ≤ sizeLine; decide, fun f0 nf0 => ?_⟩⟩
    have e0 : Ext H (upd (upd H t0 (.tup [])) f0 (.lst [.ref t0])) := (Ext.new n0).trans (Ext.new nf0)
    have nt0 : t0 ≠ f0 := fun z => by rw [← z, upd_same] at nf0; cases nf0
    refine ⟨.int (n : Int), rfl, (n : Int), rfl, by omega, by omega, ?_⟩
    rw [Int.toNat_natCast]
    refine for_range (lo := 0) (n := n) (fun p σ H2 => p ≤ n ∧ ∃ (fa : Addr) (ys : List V) (o2 o3 : Option V), σ = [some (.int (n : Int)), some (.ref fa), o2, o3] ∧ Ext H H2 ∧ H fa = none ∧ H2 fa = some (.lst ys) ∧ LT K H2 ys (lotsRaw p))
      ⟨Nat.zero_le _, f0, [.ref t0], none, none, rfl, e0, (Ext.new n0).free _ nf0, upd_same, .cons ⟨t0, rfl, SqT.of (by rw [upd_ne nt0, upd_same]; rfl)⟩ .nil⟩ ?_ ?_
    · rintro p σ H2 hp ⟨hpn, fa, ys, o2, o3, rfl, e2, nfa, hfa, hL⟩
      have hsl := lotsRaw_sl p (by omega)
      have hlen : ys.length ≤ 8 := by rw [hL.len]; exact lotsRaw_len p (by omega)
      refine ⟨.ref fa, rfl, .ref fa, rfl, fa, rfl, ⟨ys, SqL.of hfa⟩, fun D nD => ?_⟩
      refine lc_lst (a := fa) (xs := ys) (j := 3) yes (RT K fun i => (lotsRaw p).getD i [] ++ [(p : Int)]) (RT.mono K _) ?_ (SqL.of hfa) nD ?_ ?_ ?_ ?_
      · omega
      · exact fun _ => rfl
      · exact fun i x H' hx e Q2 h2 => h2 H' (Ext.refl H')
      · intro i x H' hx e ha _ Q2 h2
        obtain ⟨s, hs, t, rfl, ht⟩ := LT.get (hL.mono e) hx
        refine ⟨.ref t, rfl, t, s.map V.int, rfl, .inl ht, .int ((0 : Int) + (p : Int)), rfl, ?_, fun T nT => ?_⟩
        · rw [List.length_append, List.length_map]
          show s.length + 1 ≤ sizeLine
          exact sz (by have := hsl s (List.mem_of_getElem? hs); omega)
        · refine h2 _ _ (Ext.new nT) ⟨T, rfl, ?_⟩
          have nTD : T ≠ D := fun z => by
            obtain ⟨acc, ha⟩ := ha
            rw [z, ha] at nT
            cases nT
          refine SqT.of ?_
          rw [hid_ne nTD, upd_same, List.map_append, List.getD_eq_getElem?_getD, hs, Int.zero_add]
          rfl
      · intro H' ws e hws hp2
        have nwD : fa ≠ D := ne_of_none hfa nD
        rw [filter_yes] at hp2
        have hw := paired_RT hp2
        rw [hL.len, range_map_get (g := fun s => s ++ [(p : Int)])] at hw
        refine ⟨fa, D, ys, ws, rfl, rfl, e.lst hfa, hws, ?_, fun N nN => ?_⟩
        · have := hw.len
          rw [List.length_map, ← hL.len] at this
          exact sz (by omega)
        · refine ⟨hp, N, ys ++ ws, _, _, rfl, (e2.trans e).trans (Ext.new nN), (e2.trans e).free _ nN, upd_same, ?_⟩
          exact LT.append (hL.mono (e.trans (Ext.new nN))) ((hw.mono (ext_hid D H')).mono (Ext.new nN))
    · rintro σ H2 ⟨_, fa, ys, o2, o3, rfl, e2, nfa, hfa, hL⟩
      obtain ⟨L, eL⟩ := lotsRaw_head n
      have hl8 := lotsRaw_len n hn
      rw [eL] at hL hl8
      rw [List.length_cons] at hl8
      refine ⟨.ref fa, rfl, fa, ys, L, rfl, SqL.of hfa, hL, by omega, fun p zs np hz => ?_⟩
      rw [← eL, lots_sort hn1 hn] at hz
      exact q _ p zs (e2.trans (Ext.new np)) (e2.free _ np) upd_same (hz.mono (Ext.new np))
theorem ok_lawLots (B : Bt mg) (D : Df K mg "_law_lots" sLawLots ["_law_size"]) : Cal P w K mg base 1 "_law_lots" ["_law_size"] (spAllLots K) := by
  refine D.ok scLawLots (fun vs H Q E h => ?_) (fun f cdv A outer s H vs Q E hr h => ?_)
  · obtain ⟨n, rfl, _⟩ := h
    rfl
  · obtain ⟨n, rfl, hn1, hn, q⟩ := h
    refine ⟨_, pss_cons (ps_set (i := 1) scLawLots.nd rfl (.inl rfl) (pe_lst (pa_cons (pe_tup pa_nil) pa_nil)))
      (pss_cons (ps_for PassesOwn.never rfl (pi_range1 (by rfl) B.range (pa_cons (pv 0) pa_nil)) (pg_name (i := 2) scLawLots.nd rfl (.inr rfl))
        (pss_one (ps_set (i := 1) scLawLots.nd rfl (.inl rfl) (pe_op op_cat (pv 1) (pe_lc (own := [("_law_lot_here", 3)]) (g := gName 3) (tt := tYes) (by rfl) scLawLots.nd (pi_list (pv 1))
            (blkOk_by (N := ["_law_size", "_law_found", "_law_person", "_law_lot_here"]) (sc := defScope sLawLots) (by decide +kernel)) (fun _ _ _ _ _ => pg_name (i := 3) scLawLots.nd rfl (Or.inl rfl)) (fun _ _ _ _ _ => pts_nil)
            (fun _ _ _ _ _ => pe_op (op_catAK K) (pv 3) (pe_tup (pa_cons (pv 2) pa_nil))))))))
      (pss_one (ps_ret (pe_callB (cr_sortL hr) (by rfl) B.sorted PyProof.Rows.boot_sorted (pa_cons (pv 1) pa_nil))))), ?_⟩
    refine ⟨Nat.zero_le _, fun t0 n0 => ⟨by show 1 ≤ sizeLine; decide, fun f0 nf0 => ?_⟩⟩
    have e0 : Ext H (upd (upd H t0 (.tup [])) f0 (.lst [.ref t0])) := (Ext.new n0).trans (Ext.new nf0)
    have nt0 : t0 ≠ f0 := fun z => by rw [← z, upd_same] at nf0; cases nf0
    refine ⟨.int (n : Int), rfl, (n : Int), rfl, by omega, by omega, ?_⟩
    rw [Int.toNat_natCast]
    refine for_range (lo := 0) (n := n) (fun p σ H2 => p ≤ n ∧ ∃ (fa : Addr) (ys : List V) (o2 o3 : Option V), σ = [some (.int (n : Int)), some (.ref fa), o2, o3] ∧ Ext H H2 ∧ H fa = none ∧ H2 fa = some (.lst ys) ∧ LT K H2 ys (lotsRaw p))
      ⟨Nat.zero_le _, f0, [.ref t0], none, none, rfl, e0, (Ext.new n0).free _ nf0, upd_same, .cons ⟨t0, rfl, SqT.of (by rw [upd_ne nt0, upd_same]; rfl)⟩ .nil⟩ ?_ ?_
    · rintro p σ H2 hp ⟨hpn, fa, ys, o2, o3, rfl, e2, nfa, hfa, hL⟩
      have hsl := lotsRaw_sl p (by omega)
      have hlen : ys.length ≤ 8 := by rw [hL.len]; exact lotsRaw_len p (by omega)
      refine ⟨.ref fa, rfl, .ref fa, rfl, fa, rfl, ⟨ys, SqL.of hfa⟩, fun D nD => ?_⟩
      refine lc_lst (a := fa) (xs := ys) (j := 3) yes (RT K fun i => (lotsRaw p).getD i [] ++ [(p : Int)]) (RT.mono K _) ?_ (SqL.of hfa) nD ?_ ?_ ?_ ?_
      · omega
      · exact fun _ => rfl
      · exact fun i x H' hx e Q2 h2 => h2 H' (Ext.refl H')
      · intro i x H' hx e ha _ Q2 h2
        obtain ⟨s, hs, t, rfl, ht⟩ := LT.get (hL.mono e) hx
        obtain ⟨acc, ha⟩ := ha
        refine ⟨.ref t, rfl, .int ((0 : Int) + (p : Int)), rfl, by show 1 ≤ sizeLine; decide, fun T1 nT1 => ?_⟩
        have e1 : Ext H' (upd H' T1 (.tup [.int ((0 : Int) + (p : Int))])) := Ext.new nT1
        have res : ∀ H4 T, Ext H' H4 → SqT K H4 T ((s ++ [(p : Int)]).map V.int) → Q2 (.ref T) H4 := fun H4 T e4 hT => by
          refine h2 _ _ e4 (TI.hidden (xs := acc) ⟨T, rfl, ?_⟩ (e4.lst ha))
          show SqT K H4 T (((lotsRaw p).getD i [] ++ [(p : Int)]).map V.int)
          rw [List.getD_eq_getElem?_getD, hs]
          exact hT
        refine catA_ints (xs := s) (ys := [(p : Int)]) (e1.sqt ht) (SqT.of (by rw [upd_same, Int.zero_add]; rfl)) ?_ fun H4 T e4 hT => res H4 T (e1.trans e4) hT
        have := hsl s (List.mem_of_getElem? hs)
        show s.length + 1 ≤ 1000
        omega
      · intro H' ws e hws hp2
        have nwD : fa ≠ D := ne_of_none hfa nD
        rw [filter_yes] at hp2
        have hw := paired_RT hp2
        rw [hL.len, range_map_get (g := fun s => s ++ [(p : Int)])] at hw
        refine ⟨fa, D, ys, ws, rfl, rfl, e.lst hfa, hws, ?_, fun N nN => ?_⟩
        · have := hw.len
          rw [List.length_map, ← hL.len] at this
          exact sz (by omega)
        · refine ⟨hp, N, ys ++ ws, _, _, rfl, (e2.trans e).trans (Ext.new nN), (e2.trans e).free _ nN, upd_same, ?_⟩
          exact LT.append (hL.mono (e.trans (Ext.new nN))) ((hw.mono (ext_hid D H')).mono (Ext.new nN))
    · rintro σ H2 ⟨_, fa, ys, o2, o3, rfl, e2, nfa, hfa, hL⟩
      obtain ⟨L, eL⟩ := lotsRaw_head n
      have hl8 := lotsRaw_len n hn
      rw [eL] at hL hl8
      rw [List.length_cons] at hl8
      refine ⟨.ref fa, rfl, fa, ys, L, rfl, SqL.of hfa, hL, by omega, fun p zs np hz => ?_⟩
      rw [← eL, lots_sort hn1 hn] at hz
      exact q _ p zs (e2.trans (Ext.new np)) (e2.free _ np) upd_same (hz.mono (Ext.new np))
end
end Ft
namespace Ft
open PySem PySem.Spec PyProof.Rows L2
/-! ### places of a list -/
theorem range_getD {α : Type} (d : α) (L : List α) : (List.range L.length).map (fun i => L.getD i d) = L := by
  apply List.ext_getElem
  · rw [List.length_map, List.length_range]
  · intro i h1 h2
    rw [List.getElem_map, List.getElem_range, List.getD_eq_getElem?_getD, List.getElem?_eq_getElem h2]
    rfl
theorem range_filter {α β : Type} (d : α) (L : List α) (p : α → Bool) (g : α → β) : ((List.range L.length).filter (fun i => p (L.getD i d))).map (fun i => g (L.getD i d)) = (L.filter p).map g := by
  have h := congrArg (fun l : List α => (l.filter p).map g) (range_getD d L)
  simp only [List.filter_map, List.map_map] at h
  exact h
theorem getD_of {α : Type} {L : List α} {i : Nat} {x d : α} (h : L[i]? = some x) : L.getD i d = x := by rw [List.getD_eq_getElem?_getD, h]; rfl
/-- a tuple of ints, tracked as such -/
def TS (H : Hp) (v : V) (ns : List Int) : Prop := ∃ t, v = .ref t ∧ H t = some (.tup (ns.map V.int))
theorem TS.mono {H H' : Hp} {v : V} {ns : List Int} (h : TS H v ns) (e : Ext H H') : TS H' v ns := by
  obtain ⟨t, r, h⟩ := h
  exact ⟨t, r, e.tup h⟩
theorem TS.ti {K : PySem.W.Frag} {H : Hp} {v : V} {ns : List Int} (h : TS H v ns) : TI K H v ns := by
  obtain ⟨t, r, h⟩ := h
  exact ⟨t, r, SqT.of h⟩
theorem TS.hidden {H : Hp} {D : Addr} {v : V} {ns : List Int} {xs : List V} (h : TS H v ns) (hD : H D = some (.lst xs)) : TS (hid D H) v ns := by
  obtain ⟨t, r, h⟩ := h
  exact ⟨t, r, by rw [hid_ne (fun z => by rw [z, hD] at h; cases h)]; exact h⟩
def RS (f : Nat → List Int) : Nat → V → Hp → Prop := fun i y H => TS H y (f i)
theorem RS.mono (f : Nat → List Int) : Mono (RS f) := fun _ _ _ _ h e => TS.mono h e
def LS (H : Hp) (ys : List V) (L : List (List Int)) : Prop := Paired (fun y ns => TS H y ns) ys L
theorem LS.mono {H H' : Hp} {ys : List V} {L : List (List Int)} (h : LS H ys L) (e : Ext H H') : LS H' ys L := L2.Paired.mapP h fun _ _ r => TS.mono r e
theorem LS.lt {K : PySem.W.Frag} {H : Hp} {ys : List V} {L : List (List Int)} (h : LS H ys L) : LT K H ys L := L2.Paired.mapP h fun _ _ r => TS.ti r
theorem LS.len {H : Hp} {ys : List V} {L : List (List Int)} (h : LS H ys L) : ys.length = L.length := Paired.length h
theorem LS.get {H : Hp} : ∀ {ys : List V} {L : List (List Int)} {i : Nat} {y : V}, LS H ys L → ys[i]? = some y → ∃ ns, L[i]? = some ns ∧ TS H y ns
  | _, _, i, _, .nil, h => by simp at h
  | _, _, 0, _, .cons r t, h => by simp at h; subst h; exact ⟨_, rfl, r⟩
  | _, _, i + 1, y, .cons r t, h => LS.get (i := i) (y := y) t h
theorem LS.append {H : Hp} : ∀ {ys zs : List V} {L M : List (List Int)}, LS H ys L → LS H zs M → LS H (ys ++ zs) (L ++ M)
  | _, _, _, _, .nil, h => h
  | _, _, _, _, .cons r t, h => .cons r (LS.append t h)
theorem paired_RS {f : Nat → List Int} {H : Hp} : ∀ {l : List Nat} {ys : List V}, Paired (fun k y => RS f k y H) l ys → LS H ys (l.map f)
  | _, _, .nil => .nil
  | _, _, .cons h t => .cons h (paired_RS t)
theorem catA_strict {K : PySem.W.Frag} {H : Hp} {a b : Addr} {xs ys : List Int} {Q : VK} (hx : H a = some (.tup (xs.map V.int))) (hy : H b = some (.tup (ys.map V.int))) (hl : xs.length + ys.length ≤ 1000)
    (q : ∀ H' T, Ext H H' → H' T = some (.tup ((xs ++ ys).map V.int)) → Q (.ref T) H') : rCatA K (.ref a) (.ref b) H Q := by
  refine ⟨a, b, xs.map V.int, ys.map V.int, rfl, rfl, SqT.of hx, SqT.of hy, ?_, fun e => ?_, fun _ e => ?_, fun _ _ p np => ?_⟩
  · rw [List.length_map, List.length_map]
    exact sz hl
  · have e2 : xs = [] := List.map_eq_nil_iff.mp e
    subst e2
    exact q H b (Ext.refl H) hy
  · have e2 : ys = [] := List.map_eq_nil_iff.mp e
    subst e2
    rw [List.append_nil] at q
    exact q H a (Ext.refl H) hx
  · refine q _ p (Ext.new np) ?_
    rw [upd_same, List.map_append]
def spLawEvery : Sp := fun vs H Q _ => ∃ n : Nat, vs = [.int (n : Int)] ∧ n ≤ 3 ∧ ∀ H' l ys, Ext H H' → H l = none → H' l = some (.lst ys) → LS H' ys (depsM n) → Q (.ref l) H'
/-! ### _law_every -/
section
variable {P : Program} {w : World} {K : PySem.W.Frag} {mg : Str → Option Value} {base : Heap}
theorem ok_lawEvery (B : Bt mg) (D : Df K mg "_law_every" sLawEvery ["_law_size"]) : Cal P w K mg base 1 "_law_every" ["_law_size"] spLawEvery := by
  refine D.ok scLawEvery (fun vs H Q E h => ?_) (fun f cdv A outer s H vs Q E hr h => ?_)
  · obtain ⟨n, rfl, _⟩ := h
    rfl
  · obtain ⟨n, rfl, hn, q⟩ := h
    refine ⟨_, pss_cons (ps_set (i := 1) scLawEvery.nd rfl (.inl rfl) (pe_lst (pa_cons (pe_tup pa_nil) pa_nil)))
      (pss_cons (ps_for PassesOwn.never rfl (pi_range1 (by rfl) B.range (pa_cons (pv 0) pa_nil)) (pg_name (i := 2) scLawEvery.nd rfl (.inr rfl))
        (pss_cons (ps_set (i := 3) scLawEvery.nd rfl (.inl rfl) (pe_lst pa_nil))
        (pss_cons (ps_for PassesOwn.never rfl (pi_list (pv 1)) (pg_name (i := 4) scLawEvery.nd rfl (.inr rfl))
          (pss_one (ps_set (i := 3) scLawEvery.nd rfl (.inl rfl) (pe_op op_cat (pv 3) (pe_lc (own := [("_law_one", 5)]) (g := gName 5) (by rfl) scLawEvery.nd (pi_range2 (by rfl) B.range (pa_cons (pe_un un_neg pe_int) (pa_cons (pv 0) pa_nil)))
            (blkOk_by (N := ["_law_size", "_law_found", "_law_person", "_law_more", "_law_some", "_law_one"]) (sc := defScope sLawEvery) (by decide +kernel)) (fun _ _ _ _ _ => pg_name (i := 5) scLawEvery.nd rfl (Or.inl rfl)) (fun _ _ _ _ _ => pts_one (pt_cmpR op_ne (pv 5) (pv 2) (nomark _)))
            (fun _ _ _ _ _ => pe_op (op_catAK K) (pv 4) (pe_tup (pa_cons (pv 5) pa_nil))))))))
        (pss_one (ps_set (i := 1) scLawEvery.nd rfl (.inl rfl) (pv 3))))))
      (pss_one (ps_ret (pv 1)))), ?_⟩
    refine ⟨Nat.zero_le _, fun t0 n0 => ⟨by show 1 ≤ sizeLine; decide, fun f0 nf0 => ?_⟩⟩
    have e0 : Ext H (upd (upd H t0 (.tup [])) f0 (.lst [.ref t0])) := (Ext.new n0).trans (Ext.new nf0)
    have nt0 : t0 ≠ f0 := fun z => by rw [← z, upd_same] at nf0; cases nf0
    refine ⟨.int (n : Int), rfl, (n : Int), rfl, by omega, by omega, ?_⟩
    rw [Int.toNat_natCast]
    refine for_range (lo := 0) (n := n) (fun p σ H2 => p ≤ n ∧ ∃ (fa : Addr) (ys : List V) (o2 o3 o4 o5 : Option V), σ = [some (.int (n : Int)), some (.ref fa), o2, o3, o4, o5] ∧ Ext H H2 ∧ H fa = none ∧ H2 fa = some (.lst ys) ∧ LS H2 ys (depsRaw n p))
      ⟨Nat.zero_le _, f0, [.ref t0], none, none, none, none, rfl, e0, (Ext.new n0).free _ nf0, upd_same, .cons ⟨t0, rfl, (by rw [upd_ne nt0, upd_same]; rfl)⟩ .nil⟩ ?_ ?_
    · rintro p σ H2 hp ⟨hpn, fa, ys, o2, o3, o4, o5, rfl, e2, nfa, hfa, hL⟩
      have hpn' : p + 1 ≤ n := hp
      have hsl := depsRaw_sl n hn p (by omega)
      have hlen : ys.length ≤ 64 := by rw [hL.len]; exact depsRaw_len n hn p (by omega)
      refine ⟨Nat.zero_le _, fun m0 nm0 => ?_⟩
      have e3 : Ext H2 (upd H2 m0 (.lst [])) := Ext.new nm0
      refine ⟨.ref fa, rfl, fa, rfl, ⟨ys, SqL.of (e3.lst hfa)⟩, ?_⟩
      refine for_list (K := K) (a := fa) (xs := ys) (fun i σ H3 => ∃ (ma : Addr) (zs : List V) (o4 o5 : Option V), σ = [some (.int (n : Int)), some (.ref fa), some (.int ((0 : Int) + (p : Int))), some (.ref ma), o4, o5] ∧ Ext H2 H3 ∧ H2 ma = none ∧ H3 ma = some (.lst zs) ∧
          LS H3 zs (((depsRaw n p).take i).flatMap fun s => (opts n p).map fun x => s ++ [x]))
        ⟨m0, [], o4, o5, rfl, e3, nm0, upd_same, .nil⟩ (fun i σ H3 _ ⟨_, _, _, _, _, e, _⟩ => SqL.of (e.lst hfa)) ?_ ?_
      · rintro i y σ H3 hy ⟨ma, zs, o4, o5, rfl, e4, nma, hma, hZ⟩
        obtain ⟨s, hs, t, rfl, ht⟩ := LS.get (hL.mono e4) hy
        have hzl : zs.length ≤ 1000 - 500 := by
          rw [hZ.len, flat_len]
          have h1 := opts_len n p
          have h2 : ((depsRaw n p).take i).length ≤ 64 := by
            rw [List.length_take]
            have := depsRaw_len n hn p (by omega)
            omega
          calc _ ≤ 64 * 4 := Nat.mul_le_mul h2 (by omega)
            _ ≤ 500 := by decide
        refine ⟨.ref ma, rfl, 1, rfl, .int (n : Int), rfl, -1, (n : Int), rfl, ⟨by decide, by decide, by omega, by omega⟩, fun D nD => ?_⟩
        rw [show ((n : Int) - -1).toNat = n + 1 by omega]
        refine lc_rng (lo := -1) (j := 5) (fun i => !decide ((-1 : Int) + (i : Int) = (p : Int))) (RS fun i => s ++ [(-1 : Int) + (i : Int)]) (RS.mono _) ?_ nD ?_ ?_ ?_ ?_
        · omega
        · exact fun _ => rfl
        · intro k H' hk e Q2 h2
          refine ⟨.int ((-1 : Int) + (k : Int)), rfl, .int ((0 : Int) + (p : Int)), rfl, rfl, !decide ((-1 : Int) + (k : Int) = (p : Int)), ?_, h2 H' (Ext.refl H')⟩
          rw [Int.zero_add]
          congr 2
          by_cases hh : (-1 : Int) + (k : Int) = (p : Int)
          · rw [decide_eq_true hh, hh, decide_eq_true rfl]
          · rw [decide_eq_false hh, decide_eq_false fun z => hh (V.int.inj z)]
        · intro k H' hk e ha hb Q2 h2
          obtain ⟨acc, ha⟩ := ha
          refine ⟨.ref t, rfl, .int ((-1 : Int) + (k : Int)), rfl, by show 1 ≤ sizeLine; decide, fun T1 nT1 => ?_⟩
          have e1 : Ext H' (upd H' T1 (.tup [.int ((-1 : Int) + (k : Int))])) := Ext.new nT1
          refine catA_strict (K := K) (xs := s) (ys := [(-1 : Int) + (k : Int)]) (e1.tup (e.tup ht)) (by rw [upd_same]; rfl) ?_ fun H4 T e5 hT => ?_
          · have := hsl s (List.mem_of_getElem? hs)
            show s.length + 1 ≤ 1000
            omega
          · exact h2 _ _ (e1.trans e5) (TS.hidden (xs := acc) ⟨T, rfl, hT⟩ ((e1.trans e5).lst ha))
        · intro H' ws e hws hp2
          have nwD : ma ≠ D := ne_of_none hma nD
          have hw := paired_RS hp2
          refine ⟨ma, D, zs, ws, rfl, rfl, e.lst hma, hws, ?_, fun N nN => ?_⟩
          · have := hw.len
            rw [List.length_map] at this
            have h9 := List.length_filter_le (fun i : Nat => !decide ((-1 : Int) + (i : Int) = (p : Int))) (List.range (n + 1))
            rw [List.length_range] at h9
            exact sz (by omega)
          · refine ⟨N, zs ++ ws, _, _, rfl, (e4.trans e).trans (Ext.new nN), (e4.trans e).free _ nN, upd_same, ?_⟩
            obtain ⟨hlt, es⟩ := List.getElem?_eq_some_iff.mp hs
            rw [List.take_succ_eq_append_getElem hlt, List.flatMap_append, es]
            refine LS.append (hZ.mono (e.trans (Ext.new nN))) ?_
            have hw2 := (hw.mono (ext_hid D H')).mono (Ext.new (o := .lst (zs ++ ws)) nN)
            rw [List.flatMap_cons, List.flatMap_nil, List.append_nil]
            unfold opts
            rw [List.map_map]
            exact hw2
      · rintro σ H3 ⟨ma, zs, o4, o5, rfl, e4, nma, hma, hZ⟩
        refine ⟨.ref ma, rfl, ⟨hpn', ma, zs, _, _, _, _, rfl, e2.trans e4, e2.free _ nma, hma, ?_⟩⟩
        rw [hL.len, List.take_length] at hZ
        exact hZ
    · rintro σ H2 ⟨_, fa, ys, o2, o3, o4, o5, rfl, e2, nfa, hfa, hL⟩
      exact ⟨.ref fa, rfl, q _ fa ys e2 nfa hfa hL⟩
end
/-! ### lots_of -/
def lotsOf (n : Nat) (m : Int) : List (List Int) := (lotsM n).filter fun s => decide ((s.length : Int) = m)
def spLotsOf (K : PySem.W.Frag) : Sp := fun vs H Q _ => ∃ (t : Addr) (d : List Int) (m : Int), vs = [.ref t, .int m] ∧ SqT K H t (d.map V.int) ∧ 1 ≤ d.length ∧ d.length ≤ 3 ∧
  ∀ H' l ys, Ext H H' → H l = none → H' l = some (.lst ys) → LT K H' ys (lotsOf d.length m) → Q (.ref l) H'
theorem lotsM_len : ∀ n ≤ 3, (lotsM n).length ≤ 8 := by decide +kernel
section
variable {P : Program} {w : World} {K : PySem.W.Frag} {mg : Str → Option Value} {base : Heap}
theorem ok_lotsOf (B : Bt mg) (D : Df K mg "lots_of" sLotsOf ["deputies", "many"]) (CA : Cal P w K mg base 1 "all_lots" ["size"] (spAllLots K)) : Cal P w K mg base 2 "lots_of" ["deputies", "many"] (spLotsOf K) := by
  refine D.ok scLotsOf (fun vs H Q E h => ?_) (fun f cdv A outer s H vs Q E hr h => ?_)
  · obtain ⟨t, d, m, rfl, _⟩ := h
    rfl
  · obtain ⟨t, d, m, rfl, hT, h1, h3, q⟩ := h
    refine ⟨_, pss_one (ps_ret (pe_lc (own := [("lot", 2)]) (g := gName 2) (by rfl) scLotsOf.nd (pi_list (pe_c CA hr (by rfl) (pa_cons (pe_callB call_len_seq (by rfl) B.len PySem.boot_len (pa_cons (pv 0) pa_nil)) pa_nil)))
      (blkOk_by (N := ["deputies", "many", "lot"]) (sc := defScope sLotsOf) (by decide +kernel)) (fun _ _ _ _ _ => pg_name (i := 2) scLotsOf.nd rfl (Or.inl rfl))
      (fun _ _ _ _ _ => pts_one (pt_cmpR op_eq (pe_callB (call_lenK K) (by rfl) B.len PySem.boot_len (pa_cons (pv 2) pa_nil)) (pv 1) (nomark _))) (fun _ _ _ _ _ => pv 2))), ?_⟩
    refine ⟨.ref t, rfl, t, d.map V.int, rfl, .inr hT, d.length, ?_, h1, h3, fun H1 l ys e1 nl hl hL => ⟨l, rfl, ⟨_, SqL.of hl⟩, fun D nD => ?_⟩⟩
    · rw [List.length_map]
    have hlen := lotsM_len d.length h3
    have hyl := hL.len
    refine lc_lst (a := l) (xs := ys) (j := 2) (fun i => decide ((((lotsM d.length).getD i []).length : Int) = m)) (RT K fun i => (lotsM d.length).getD i []) (RT.mono K _) ?_ (SqL.of hl) nD ?_ ?_ ?_ ?_
    · omega
    · exact fun _ => rfl
    · intro i x H' hx e Q2 h2
      obtain ⟨s, hs, t, rfl, ht⟩ := LT.get (hL.mono e) hx
      refine ⟨.ref t, rfl, t, s.map V.int, rfl, .inr ht, .int m, rfl, rfl, _, ?_, h2 H' (Ext.refl H')⟩
      rw [List.length_map, getD_of hs]
      congr 1
      by_cases hh : (s.length : Int) = m
      · rw [hh, decide_eq_true rfl, decide_eq_true rfl]
      · rw [decide_eq_false hh, decide_eq_false fun z => hh (V.int.inj z)]
    · intro i x H' hx e ha _ Q2 h2
      obtain ⟨s, hs, ht⟩ := LT.get (hL.mono e) hx
      obtain ⟨acc, ha⟩ := ha
      refine ⟨x, rfl, h2 _ _ (Ext.refl H') ?_⟩
      have := TI.hidden ht ha
      show TI K (hid D H') x ((lotsM d.length).getD i [])
      rw [getD_of hs]
      exact this
    · intro H' ws e hws hp2
      have hw := paired_RT hp2
      have er := range_filter [] (lotsM d.length) (fun s => decide ((s.length : Int) = m)) id
      rw [← hyl] at er
      simp only [List.map_id, id] at er
      rw [er] at hw
      exact q H' D ws (e1.trans e) (e1.free _ nD) hws (hw.mono (ext_hid D H'))
end
/-! ### pairs (changes, deputies) -/
def pairD (x : Int × List Int) : PyData := .tuple [.int x.1, tupD x.2]
def PairI (K : PySem.W.Frag) (H : Hp) (v : V) (x : Int × List Int) : Prop := ∃ p t, v = .ref p ∧ SqT K H p [.int x.1, .ref t] ∧ SqT K H t (x.2.map V.int)
theorem PairI.mono {K : PySem.W.Frag} {H H' : Hp} {v : V} {x : Int × List Int} (h : PairI K H v x) (e : Ext H H') : PairI K H' v x := by
  obtain ⟨p, t, r, h1, h2⟩ := h
  exact ⟨p, t, r, e.sqt h1, e.sqt h2⟩
theorem sqt_hidden {K : PySem.W.Frag} {H : Hp} {D t : Addr} {xs ys : List V} (h : SqT K H t ys) (hD : H D = some (.lst xs)) : SqT K (hid D H) t ys := by
  rcases h with (h | ⟨o, h⟩) | h
  · exact .inl (.inl (by rw [hid_ne (fun z => by rw [z, hD] at h; cases h)]; exact h))
  · exact .inl (.inr ⟨o, by rw [hid_ne (fun z => by rw [z, hD] at h; cases h)]; exact h⟩)
  · exact .inr h
theorem PairI.hidden {K : PySem.W.Frag} {H : Hp} {D : Addr} {v : V} {x : Int × List Int} {xs : List V} (h : PairI K H v x) (hD : H D = some (.lst xs)) : PairI K (hid D H) v x := by
  obtain ⟨p, t, r, h1, h2⟩ := h
  exact ⟨p, t, r, sqt_hidden h1 hD, sqt_hidden h2 hD⟩
theorem PairI.dp {K : PySem.W.Frag} {H : Hp} {v : V} {x : Int × List Int} (h : PairI K H v x) : Dp K H v (pairD x) := by
  obtain ⟨p, t, rfl, h1, h2⟩ := h
  exact .tup h1 (.cons (.int _) (.cons (.tup h2 (dpAll_ints x.2)) .nil))
def LP (K : PySem.W.Frag) (H : Hp) (ys : List V) (L : List (Int × List Int)) : Prop := Paired (fun y x => PairI K H y x) ys L
theorem LP.mono {K : PySem.W.Frag} {H H' : Hp} {ys : List V} {L : List (Int × List Int)} (h : LP K H ys L) (e : Ext H H') : LP K H' ys L := L2.Paired.mapP h fun _ _ r => PairI.mono r e
theorem LP.len {K : PySem.W.Frag} {H : Hp} {ys : List V} {L : List (Int × List Int)} (h : LP K H ys L) : ys.length = L.length := Paired.length h
theorem LP.get {K : PySem.W.Frag} {H : Hp} : ∀ {ys : List V} {L : List (Int × List Int)} {i : Nat} {y : V}, LP K H ys L → ys[i]? = some y → ∃ x, L[i]? = some x ∧ PairI K H y x
  | _, _, i, _, .nil, h => by simp at h
  | _, _, 0, _, .cons r t, h => by simp at h; subst h; exact ⟨_, rfl, r⟩
  | _, _, i + 1, y, .cons r t, h => LP.get (i := i) (y := y) t h
theorem LP.dp {K : PySem.W.Frag} {H : Hp} : ∀ {ys : List V} {L : List (Int × List Int)}, LP K H ys L → DpAll K H ys (L.map pairD)
  | _, _, .nil => .nil
  | _, _, .cons r t => .cons r.dp (LP.dp t)
theorem alike_pairD (a b : Int × List Int) : PySem.W.alike (pairD a) (pairD b) = true := by
  show PySem.W.alike (.tuple [.int a.1, tupD a.2]) (.tuple [.int b.1, tupD b.2]) = true
  rw [PySem.W.alike, PySem.W.alikeAll, PySem.W.alikeAll, PySem.W.alikeAll, PySem.W.alike, alike_tupD]
  rfl
theorem map_int_inj : ∀ {a b : List Int}, a.map PyData.int = b.map PyData.int → a = b
  | [], [], _ => rfl
  | [], _ :: _, h => by cases h
  | _ :: _, [], h => by cases h
  | x :: a, y :: b, h => by
    rw [List.map_cons, List.map_cons] at h
    injection h with h1 h2
    injection h1 with h1
    rw [h1, map_int_inj h2]
theorem pairD_inj {a b : Int × List Int} (h : pairD a = pairD b) : a = b := by
  obtain ⟨x, xs⟩ := a
  obtain ⟨y, ys⟩ := b
  unfold pairD tupD at h
  simp only at h
  injection h with h
  injection h with h1 h
  injection h with h2 h
  injection h1 with h1
  injection h2 with h2
  rw [h1, map_int_inj h2]
theorem depth_pairD (x : Int × List Int) : (pairD x).depth ≤ 2 := by
  have h := depth_tupD x.2
  show PyData.depth (.tuple [.int x.1, tupD x.2]) ≤ 2
  simp only [PyData.depth, PyData.depthAll]
  omega
theorem depthAll_pairD : ∀ L : List (Int × List Int), PyData.depthAll (L.map pairD) ≤ 2
  | [] => by simp [PyData.depthAll]
  | x :: r => by
    have h1 := depth_pairD x
    have h2 := depthAll_pairD r
    simp only [List.map_cons, PyData.depthAll]
    omega
def minP (x : Int × List Int) (L : List (Int × List Int)) : Int × List Int := L.foldl (fun a y => if PySem.W.dataLt (pairD y) (pairD a) then y else a) x
theorem minP_D : ∀ (L : List (Int × List Int)) (x : Int × List Int), PySem.W.minD (pairD x) (L.map pairD) = pairD (minP x L)
  | [], _ => rfl
  | y :: r, x => by
    have ih := minP_D r (if PySem.W.dataLt (pairD y) (pairD x) then y else x)
    show PySem.W.minD (if PySem.W.dataLt (pairD y) (pairD x) then pairD y else pairD x) (r.map pairD) = _
    rw [show (if PySem.W.dataLt (pairD y) (pairD x) = true then pairD y else pairD x) = pairD (if PySem.W.dataLt (pairD y) (pairD x) = true then y else x) by split <;> rfl]
    exact ih
def rMinP (K : PySem.W.Frag) : List V → Hp → VK → Prop := fun vs H Q => ∃ (a : Addr) (ys : List V) (x : Int × List Int) (L : List (Int × List Int)), vs = [.ref a] ∧ SqL K H a ys ∧ LP K H ys (x :: L) ∧ ∀ v, PairI K H v (minP x L) → Q v H
section
variable {X : Cx}
theorem cr_minP (hc : X.calm = true) {k : Nat} (hr : Room k X.A) : CallR X (.builtin "min") (rMinP X.K) := by
  intro pins s σ H vs us Q I r h
  obtain ⟨a, ys, x, L, rfl, hs, hL, q⟩ := h
  obtain ⟨its, rv, hl, hz⟩ := I.list hs
  rw [Vals.ref1 r]
  obtain ⟨as, hra⟩ := Dp.readsAll I _ _ _ hL.dp rv
  have hd := depthAll_pairD (x :: L)
  have hu := hr.units
  refine PySem.W.min_list_data (I.ok.hd hc) hl.isList (x := pairD x) (xs := L.map pairD) (by simpa using hra) ⟨fun d hd d' hd' => ?_, fun d hd => ?_⟩ (by rw [List.map_cons] at hd; omega) fun i v h' tk bs hv hrd hk => ?_
  · rw [← List.map_cons] at hd hd'
    obtain ⟨b, _, rfl⟩ := List.mem_map.mp hd
    obtain ⟨b', _, rfl⟩ := List.mem_map.mp hd'
    exact alike_pairD b b'
  · rw [← List.map_cons] at hd
    obtain ⟨b, _, rfl⟩ := List.mem_map.mp hd
    exact fun z => nomatch z
  · have hv2 : its[i]? = some v := by simpa using hv
    have hi : i < ys.length := by
      have := (List.getElem?_eq_some_iff.mp hv2).1
      have := rv.length
      omega
    obtain ⟨y, hy⟩ : ∃ y, ys[i]? = some y := ⟨_, List.getElem?_eq_getElem hi⟩
    obtain ⟨u, hu2, ru⟩ := rv.get hy
    rw [hv2] at hu2
    cases hu2
    obtain ⟨z, hz2, hp⟩ := hL.get hy
    obtain ⟨cs, hrz⟩ := Dp.reads I _ _ _ hp.dp ru
    have e := PySem.W.alike_unique _ _ _ _ _ (by rw [minP_D]; exact alike_pairD _ _) hrd (PyProof.Rows.Reads.keeps hk hrz)
    rw [minP_D] at e
    have e2 := pairD_inj e
    rw [← e2] at hp
    exact ⟨y, H, I.kept (t' := tk) hk, ru, q y hp⟩
end
end Ft
namespace Ft
open PySem PySem.Spec PyProof.Rows L2
/-! ### deputies -/
def areDepM (ns : List Int) : Bool := (decide (1 ≤ (ns.length : Int)) && decide ((ns.length : Int) ≤ 6)) && (List.range ns.length).all fun i => (decide (-1 ≤ ns.getD i 0) && decide (ns.getD i 0 ≤ (ns.length : Int) - 1)) && !decide (ns.getD i 0 = (i : Int))
def GoodD (d : List Int) : Prop := 1 ≤ d.length ∧ d.length ≤ 3 ∧ d ∈ depsM d.length
theorem good_facts : ∀ n ≤ 3, 1 ≤ n → ∀ d ∈ depsM n, d.length = n ∧ areDepM d = true ∧ chOk d = true := by decide +kernel
theorem GoodD.dep {d : List Int} (g : GoodD d) : areDepM d = true := (good_facts _ g.2.1 g.1 d g.2.2).2.1
theorem GoodD.ch {d : List Int} (g : GoodD d) : chOk d = true := (good_facts _ g.2.1 g.1 d g.2.2).2.2
theorem good_of {n : Nat} {d : List Int} (h1 : 1 ≤ n) (h3 : n ≤ 3) (h : d ∈ depsM n) : GoodD d ∧ d.length = n := by
  have e := (good_facts n h3 h1 d h).1
  exact ⟨⟨by omega, by omega, by rw [e]; exact h⟩, e⟩
def spAreDep (K : PySem.W.Frag) (P1 : Addr) : Sp := fun vs H Q _ => (∃ (t : Addr) (ns : List Int), vs = [.ref t] ∧ SqT K H t (ns.map V.int) ∧ ns.length ≤ 100 ∧ GxR.TabG H P1 ∧ ∀ H', Ext H H' → Q (.bl (areDepM ns)) H') ∨
  (∃ (l : Addr) (xs : List V), vs = [.ref l] ∧ SqL K H l xs ∧ ∀ H', Ext H H' → Q (.bl false) H')
def spNeedDep (K : PySem.W.Frag) (P1 : Addr) : Sp := fun vs H Q _ => ∃ (t : Addr) (d : List Int), vs = [.ref t] ∧ SqT K H t (d.map V.int) ∧ GoodD d ∧ GxR.TabG H P1 ∧ ∀ H', Ext H H' → Q .non H'
def spNeedPerson (K : PySem.W.Frag) : Sp := fun vs H Q _ => ∃ (t : Addr) (d : List Int) (p : Int), vs = [.ref t, .int p] ∧ SqT K H t (d.map V.int) ∧ 0 ≤ p ∧ p < d.length ∧ Q .non H
def spNeedMany (K : PySem.W.Frag) (P1 : Addr) : Sp := fun vs H Q _ => ∃ (t : Addr) (d : List Int) (m : Int), vs = [.ref t, .int m] ∧ SqT K H t (d.map V.int) ∧ GoodD d ∧ 0 ≤ m ∧ m ≤ d.length ∧ GxR.TabG H P1 ∧ ∀ H', Ext H H' → Q .non H'
def spNeedSure (K : PySem.W.Frag) (P1 : Addr) : Sp := fun vs H Q _ => ∃ (t : Addr) (d : List Int) (m : Int), vs = [.ref t, .int m] ∧ SqT K H t (d.map V.int) ∧ GoodD d ∧ 0 ≤ m ∧ m ≤ 3 ∧ GxR.TabG H P1 ∧ ∀ H', Ext H H' → Q .non H'
def spLeastChain (K : PySem.W.Frag) (P1 : Addr) : Sp := fun vs H Q _ => ∃ (t : Addr) (d : List Int), vs = [.ref t] ∧ SqT K H t (d.map V.int) ∧ GoodD d ∧ GxR.TabG H P1 ∧ ∀ H', Ext H H' → Q (.int (shortM d)) H'
def spSurest (K : PySem.W.Frag) (P1 : Addr) : Sp := fun vs H Q _ => ∃ (t : Addr) (d : List Int), vs = [.ref t] ∧ SqT K H t (d.map V.int) ∧ GoodD d ∧ GxR.TabG H P1 ∧ ∀ H', Ext H H' → Q (.int (shortM d - 1)) H'
section
variable {P : Program} {w : World} {K : PySem.W.Frag} {mg : Str → Option Value} {base : Heap} {P1 : Addr}
theorem ok_needDep (D : Df K mg "need_deputies" sNeedDeputies ["deputies"]) (CA : Cal P w K mg base 2 "are_deputies" ["value"] (spAreDep K P1)) : Cal P w K mg base 3 "need_deputies" ["deputies"] (spNeedDep K P1) := by
  refine D.ok scNeedDeputies (fun vs H Q E h => ?_) (fun f cdv A outer s H vs Q E hr h => ?_)
  · obtain ⟨t, d, rfl, _⟩ := h
    rfl
  · obtain ⟨t, d, rfl, hT, g, hP, q⟩ := h
    refine ⟨_, pss_one (ps_if (pt_not (pt_val (pe_c CA hr (by rfl) (pa_cons (pv 0) pa_nil)))) (pss_one ps_never) pss_nil), ?_⟩
    refine ⟨.ref t, rfl, .inl ⟨t, d, rfl, hT, by have := g.2.1; omega, hP, fun H' e => ⟨true, by rw [g.dep], iteF (q H' e)⟩⟩⟩
theorem ok_needPerson (B : Bt mg) (D : Df K mg "need_person" sNeedPerson ["deputies", "person"]) (CI : Cal P w K mg base 1 "is_in" ["value", "least", "most"] spIsIn) : Cal P w K mg base 2 "need_person" ["deputies", "person"] (spNeedPerson K) := by
  refine D.ok scNeedPerson (fun vs H Q E h => ?_) (fun f cdv A outer s H vs Q E hr h => ?_)
  · obtain ⟨t, d, p, rfl, _⟩ := h
    rfl
  · obtain ⟨t, d, p, rfl, hT, h0, h1, q⟩ := h
    refine ⟨_, pss_one (ps_if (pt_not (pt_val (pe_c CI hr (by rfl) (pa_cons (pv 1) (pa_cons pe_int (pa_cons (pe_op op_sub (pe_callB call_len_seq (by rfl) B.len PySem.boot_len (pa_cons (pv 0) pa_nil)) pe_int) pa_nil)))))) (pss_one ps_never) pss_nil), ?_⟩
    refine ⟨.int p, rfl, .ref t, rfl, t, d.map V.int, rfl, .inr hT, _, _, rfl, rfl, p, 0, _, rfl, true, ?_, iteF q⟩
    rw [true_and h0 (by rw [List.length_map]; omega)]
theorem ok_needMany (B : Bt mg) (D : Df K mg "need_many" sNeedMany ["deputies", "many"]) (CI : Cal P w K mg base 1 "is_in" ["value", "least", "most"] spIsIn) (CN : Cal P w K mg base 3 "need_deputies" ["deputies"] (spNeedDep K P1)) : Cal P w K mg base 4 "need_many" ["deputies", "many"] (spNeedMany K P1) := by
  refine D.ok scNeedMany (fun vs H Q E h => ?_) (fun f cdv A outer s H vs Q E hr h => ?_)
  · obtain ⟨t, d, m, rfl, _⟩ := h
    rfl
  · obtain ⟨t, d, m, rfl, hT, g, h0, h1, hP, q⟩ := h
    have hr1 : Room 1 _ := hr.mono (by decide)
    refine ⟨_, pss_cons (ps_expr (pe_c CN hr (by rfl) (pa_cons (pv 0) pa_nil)))
      (pss_one (ps_if (pt_not (pt_val (pe_c CI hr1 (by rfl) (pa_cons (pv 1) (pa_cons pe_int (pa_cons (pe_callB call_len_seq (by rfl) B.len PySem.boot_len (pa_cons (pv 0) pa_nil)) pa_nil)))))) (pss_one ps_never) pss_nil)), ?_⟩
    refine ⟨.ref t, rfl, t, d, rfl, hT, g, hP, fun H' e => ?_⟩
    refine ⟨.int m, rfl, .ref t, rfl, t, d.map V.int, rfl, .inr (e.sqt hT), m, 0, _, rfl, true, ?_, iteF (q H' e)⟩
    rw [true_and h0 (by rw [List.length_map]; omega)]
theorem ok_needSure (B : Bt mg) (T : Ct mg) (D : Df K mg "need_sure" sNeedSure ["deputies", "many"]) (CI : Cal P w K mg base 1 "is_in" ["value", "least", "most"] spIsIn) (CN : Cal P w K mg base 3 "need_deputies" ["deputies"] (spNeedDep K P1))
    (CF : Cal P w K mg base 1 "need_few" ["size"] spNeedFew) : Cal P w K mg base 4 "need_sure" ["deputies", "many"] (spNeedSure K P1) := by
  refine D.ok scNeedSure (fun vs H Q E h => ?_) (fun f cdv A outer s H vs Q E hr h => ?_)
  · obtain ⟨t, d, m, rfl, _⟩ := h
    rfl
  · obtain ⟨t, d, m, rfl, hT, g, h0, h1, hP, q⟩ := h
    have hr1 : Room 1 _ := hr.mono (by decide)
    obtain ⟨tc, gc⟩ := T.sure
    have h3 := g.2.1
    refine ⟨_, pss_cons (ps_expr (pe_c CN hr (by rfl) (pa_cons (pv 0) pa_nil)))
      (pss_cons (ps_if (pt_not (pt_val (pe_c CI hr1 (by rfl) (pa_cons (pv 1) (pa_cons pe_int (pa_cons (pe_glob (v := .int 3) (by rfl) gc ⟨_, rfl⟩) pa_nil)))))) (pss_one ps_never) pss_nil)
      (pss_one (ps_expr (pe_c CF hr1 (by rfl) (pa_cons (pe_callB call_len_seq (by rfl) B.len PySem.boot_len (pa_cons (pv 0) pa_nil)) pa_nil))))), ?_⟩
    refine ⟨.ref t, rfl, t, d, rfl, hT, g, hP, fun H' e => ?_⟩
    refine ⟨.int m, rfl, m, 0, 3, rfl, true, ?_, iteF ?_⟩
    · rw [true_and h0 h1]
    · exact ⟨.ref t, rfl, t, d.map V.int, rfl, .inr (e.sqt hT), _, rfl, by rw [List.length_map]; omega, q H' e⟩
theorem ok_leastChain (D : Df K mg "least_chain" sLeastChain ["deputies"]) (CN : Cal P w K mg base 3 "need_deputies" ["deputies"] (spNeedDep K P1)) (CS : Cal P w K mg base 2 "shortest" ["deputies"] (spShortest K)) : Cal P w K mg base 4 "least_chain" ["deputies"] (spLeastChain K P1) := by
  refine D.ok scLeastChain (fun vs H Q E h => ?_) (fun f cdv A outer s H vs Q E hr h => ?_)
  · obtain ⟨t, d, rfl, _⟩ := h
    rfl
  · obtain ⟨t, d, rfl, hT, g, hP, q⟩ := h
    have hr2 : Room 2 _ := hr.mono (by decide)
    have h1 := g.1
    have h3 := g.2.1
    refine ⟨_, pss_cons (ps_expr (pe_c CN hr (by rfl) (pa_cons (pv 0) pa_nil))) (pss_one (ps_ret (pe_c CS hr2 (by rfl) (pa_cons (pv 0) pa_nil)))), ?_⟩
    refine ⟨.ref t, rfl, t, d, rfl, hT, g, hP, fun H' e => ?_⟩
    exact ⟨.ref t, rfl, t, d, rfl, e.sqt hT, by omega, by omega, g.ch, fun H2 e2 => q H2 (e.trans e2)⟩
theorem ok_surest (D : Df K mg "surest" sSurest ["deputies"]) (CN : Cal P w K mg base 3 "need_deputies" ["deputies"] (spNeedDep K P1)) (CS : Cal P w K mg base 2 "shortest" ["deputies"] (spShortest K)) : Cal P w K mg base 4 "surest" ["deputies"] (spSurest K P1) := by
  refine D.ok scSurest (fun vs H Q E h => ?_) (fun f cdv A outer s H vs Q E hr h => ?_)
  · obtain ⟨t, d, rfl, _⟩ := h
    rfl
  · obtain ⟨t, d, rfl, hT, g, hP, q⟩ := h
    have hr2 : Room 2 _ := hr.mono (by decide)
    have h1 := g.1
    have h3 := g.2.1
    refine ⟨_, pss_cons (ps_expr (pe_c CN hr (by rfl) (pa_cons (pv 0) pa_nil))) (pss_one (ps_ret (pe_op op_sub (pe_c CS hr2 (by rfl) (pa_cons (pv 0) pa_nil)) pe_int))), ?_⟩
    refine ⟨.ref t, rfl, t, d, rfl, hT, g, hP, fun H' e => ?_⟩
    exact ⟨.ref t, rfl, t, d, rfl, e.sqt hT, by omega, by omega, g.ch, fun H2 e2 => ⟨_, _, rfl, rfl, q H2 (e.trans e2)⟩⟩
end
/-! ### fewest_of, fewest_sure -/
def candsOf (d : List Int) (m : Int) (L : List (List Int)) : List (Int × List Int) := (L.filter fun s => decide (m < shortM s)).map fun s => (unlM s d, s)
def fewM (d : List Int) (m : Int) : Option (Int × List Int) := match candsOf d m (depsM d.length) with
  | [] => none
  | x :: L => some (minP x L)
def PO (K : PySem.W.Frag) (H : Hp) (v : V) : Option (Int × List Int) → Prop
  | none => v = .non
  | some x => PairI K H v x
theorem PO.mono {K : PySem.W.Frag} {H H' : Hp} {v : V} : ∀ {o : Option (Int × List Int)}, PO K H v o → Ext H H' → PO K H' v o
  | none, h, _ => h
  | some _, h, e => PairI.mono h e
def spFewestOf (K : PySem.W.Frag) : Sp := fun vs H Q _ => ∃ (t : Addr) (d : List Int) (m : Int), vs = [.ref t, .int m] ∧ SqT K H t (d.map V.int) ∧ GoodD d ∧ ∀ H' v, Ext H H' → PO K H' v (fewM d m) → Q v H'
def spFewestSure (K : PySem.W.Frag) (P1 : Addr) : Sp := fun vs H Q _ => ∃ (t : Addr) (d : List Int) (m : Int), vs = [.ref t, .int m] ∧ SqT K H t (d.map V.int) ∧ GoodD d ∧ 0 ≤ m ∧ m ≤ 3 ∧ GxR.TabG H P1 ∧ ∀ H' v, Ext H H' → PO K H' v (fewM d m) → Q v H'
theorem depsM_len : ∀ n ≤ 3, (depsM n).length ≤ 64 := fun n h => depsRaw_len n h n h
section
variable {P : Program} {w : World} {K : PySem.W.Frag} {mg : Str → Option Value} {base : Heap} {P1 : Addr}
theorem ok_fewestOf (B : Bt mg) (D : Df K mg "fewest_of" sFewestOf ["deputies", "many"]) (CA : Cal P w K mg base 1 "all_deputies" ["size"] (spAllDeputies K)) (CS : Cal P w K mg base 2 "shortest" ["deputies"] (spShortest K)) (CU : Cal P w K mg base 1 "unlike" ["one", "other"] (spUnlike K)) :
    Cal P w K mg base 3 "fewest_of" ["deputies", "many"] (spFewestOf K) := by
  refine D.ok scFewestOf (fun vs H Q E h => ?_) (fun f cdv A outer s H vs Q E hr h => ?_)
  · obtain ⟨t, d, m, rfl, _⟩ := h
    rfl
  · obtain ⟨t, d, m, rfl, hT, g, q⟩ := h
    have hr1 : Room 1 _ := hr.mono (by decide)
    refine ⟨_, pss_cons (ps_set (i := 2) scFewestOf.nd rfl (.inl rfl) (pe_lst pa_nil))
      (pss_cons (ps_for PassesOwn.never rfl (pi_list (pe_c CA hr1 (by rfl) (pa_cons (pe_callB call_len_seq (by rfl) B.len PySem.boot_len (pa_cons (pv 0) pa_nil)) pa_nil))) (pg_name (i := 3) scFewestOf.nd rfl (.inl rfl))
        (pss_one (ps_if (pt_cmpR op_gt (pe_c CS hr (by rfl) (pa_cons (pv 3) pa_nil)) (pv 1) (nomark _))
          (pss_one (ps_expr (pe_bm PySem.F.plainAttrs_list PySem.F.slot_list_append PySem.F.type_list_append mt_append (pv 2) (pa_cons (pe_tup (pa_cons (pe_c CU hr1 (by rfl) (pa_cons (pv 3) (pa_cons (pv 0) pa_nil))) (pa_cons (pv 3) pa_nil))) pa_nil))))
          pss_nil)))
      (pss_one (ps_ret (pe_ifExp (pt_truth (pv 2) (by intro _; rfl)) (pe_callB (cr_minP (by rfl) hr) (by rfl) B.min PyProof.Rows.boot_min (pa_cons (pv 2) pa_nil)) pe_non)))), ?_⟩
    refine ⟨Nat.zero_le _, fun l nl => ?_⟩
    have e0 : Ext H (upd H l (.lst [])) := Ext.new nl
    refine ⟨.ref t, rfl, t, d.map V.int, rfl, .inr (e0.sqt hT), d.length, by rw [List.length_map], g.2.1, fun H1 la ys e1 nla hla hL => ⟨la, rfl, ⟨_, SqL.of hla⟩, ?_⟩⟩
    have hl1 : H1 l = some (.lst []) := e1.lst upd_same
    have e01 := e0.trans e1
    have hyl := hL.len
    have hd64 := depsM_len d.length g.2.1
    refine for_list (K := K) (a := la) (xs := ys) (fun i σ H2 => i ≤ ys.length ∧ ∃ (o : Option V) (zs : List V), σ = [some (.ref t), some (.int m), some (.ref l), o] ∧ Ext H H2 ∧ Ext (hid l H1) (hid l H2) ∧ H2 l = some (.lst zs) ∧ LP K (hid l H2) zs (candsOf d m ((depsM d.length).take i)) ∧ zs.length ≤ i)
      ⟨Nat.zero_le _, none, [], rfl, e01, Ext.refl _, hl1, .nil, Nat.le_refl _⟩ (fun i σ H2 _ ⟨_, _, _, _, _, e, _⟩ => SqL.of ((ext_hid l H2).lst (e.lst (by rw [hid_ne (fun z => by rw [z, upd_same] at nla; cases nla)]; exact hla)))) ?_ ?_
    · rintro i y σ H2 hy ⟨hi0, o, zs, rfl, e2, e2h, hz, hLP, hzl⟩
      have hilt := (List.getElem?_eq_some_iff.mp hy).1
      have hL2 : LT K H2 ys (depsM d.length) := by
        have h1 : LT K (hid l H1) ys (depsM d.length) := L2.Paired.mapP hL fun _ _ r => TI.hidden r hl1
        exact (h1.mono e2h).mono (ext_hid l H2)
      obtain ⟨s, hs, tt, rfl, htt⟩ := LT.get hL2 hy
      obtain ⟨gs, gl⟩ := good_of g.1 g.2.1 (List.mem_of_getElem? hs)
      have gs1 := gs.1
      have gs3 := gs.2.1
      have htk : (depsM d.length).take (i + 1) = (depsM d.length).take i ++ [s] := by
        obtain ⟨hlt, es⟩ := List.getElem?_eq_some_iff.mp hs
        rw [List.take_succ_eq_append_getElem hlt, es]
      refine ⟨.ref tt, rfl, tt, s, rfl, htt, by omega, by omega, gs.ch, fun H3 e3 => ⟨.int m, rfl, _, _, rfl, rfl, decide (m < shortM s), rfl, ?_⟩⟩
      have hz3 := e3.lst hz
      by_cases hc : m < shortM s
      · rw [decide_eq_true hc]
        refine iteT ⟨.ref l, rfl, .inl ⟨rfl, _, SqL.of hz3⟩, .ref tt, rfl, .ref t, rfl, .ref tt, .ref t, s, d, rfl, ⟨tt, rfl, e3.sqt htt⟩, ⟨t, rfl, (e2.trans e3).sqt hT⟩, gl, by omega, fun H4 e4 => ⟨.ref tt, rfl, by show 2 ≤ sizeLine; decide, fun p np => ?_⟩⟩
        have e5 : Ext H4 (upd H4 p (.tup [.int (unlM s d), .ref tt])) := Ext.new np
        have hz4 := e5.lst (e4.lst hz3)
        refine ⟨l, zs, .ref p, rfl, rfl, hz4, szl (by omega), by omega, _, zs ++ [.ref p], rfl, (((e2.trans e3).trans e4).trans e5).mut nl, ?_, upd_same, ?_, by rw [List.length_append, List.length_singleton]; omega⟩
        · rw [hid_upd]
          exact (e2h.trans ((e3.trans e4).hidden l)).trans (e5.hidden l)
        · rw [hid_upd, htk]
          unfold candsOf
          rw [List.filter_append, List.map_append, List.filter_cons, if_pos (decide_eq_true hc)]
          refine Paired.snoc (hLP.mono (((e3.trans e4).trans e5).hidden l)) ?_
          exact PairI.hidden ⟨p, tt, rfl, SqT.of upd_same, e5.sqt (e4.sqt (e3.sqt htt))⟩ hz4
      · rw [decide_eq_false hc]
        refine iteF ⟨by omega, _, zs, rfl, e2.trans e3, e2h.trans (e3.hidden l), hz3, ?_, by omega⟩
        rw [htk]
        unfold candsOf
        rw [List.filter_append, List.map_append, List.filter_cons, if_neg (by rw [decide_eq_false hc]; decide)]
        show LP K (hid l H3) zs (_ ++ [])
        rw [List.append_nil]
        exact hLP.mono (e3.hidden l)
    · rintro σ H2 ⟨_, o, zs, rfl, e2, e2h, hz, hLP, hzl⟩
      rw [hyl, List.take_length] at hLP
      refine ⟨.ref l, rfl, !zs.isEmpty, .inl ⟨zs, SqL.of hz, rfl⟩, ?_⟩
      have q2 := q H2
      unfold fewM at q2
      generalize candsOf d m (depsM d.length) = cs at hLP q2
      cases hLP with
      | nil => exact iteF (q2 .non e2 rfl)
      | @cons y x zr cr r1 r2 =>
        refine iteT ⟨.ref l, rfl, l, _, x, cr, rfl, SqL.of hz, LP.mono (.cons r1 r2) (ext_hid l H2), fun v hv => q2 v e2 hv⟩
theorem ok_fewestSure (D : Df K mg "fewest_sure" sFewestSure ["deputies", "many"]) (CN : Cal P w K mg base 4 "need_sure" ["deputies", "many"] (spNeedSure K P1)) (CF : Cal P w K mg base 3 "fewest_of" ["deputies", "many"] (spFewestOf K)) : Cal P w K mg base 5 "fewest_sure" ["deputies", "many"] (spFewestSure K P1) := by
  refine D.ok scFewestSure (fun vs H Q E h => ?_) (fun f cdv A outer s H vs Q E hr h => ?_)
  · obtain ⟨t, d, m, rfl, _⟩ := h
    rfl
  · obtain ⟨t, d, m, rfl, hT, g, h0, h3, hP, q⟩ := h
    have hr3 : Room 3 _ := hr.mono (by decide)
    refine ⟨_, pss_cons (ps_expr (pe_c CN hr (by rfl) (pa_cons (pv 0) (pa_cons (pv 1) pa_nil)))) (pss_one (ps_ret (pe_c CF hr3 (by rfl) (pa_cons (pv 0) (pa_cons (pv 1) pa_nil))))), ?_⟩
    refine ⟨.ref t, rfl, .int m, rfl, t, d, m, rfl, hT, g, h0, h3, hP, fun H' e => ?_⟩
    exact ⟨.ref t, rfl, .int m, rfl, t, d, m, rfl, e.sqt hT, g, fun H2 v e2 hv => q H2 v (e.trans e2) hv⟩
end
end Ft
namespace Ft
open PySem PySem.Spec PyProof.Rows L2
/-! ### shows_fewest_sure -/
def showT (d : List Int) (m c c' : Int) (ns : List Int) : Bool := decide (c' = c) && (decide (ns ≠ []) && (decide (m < shortM ns) && decide (unlM ns d = c)))
/-- a value, and what the law asks of it -/
def ShowV (K : PySem.W.Frag) (H : Hp) (d : List Int) (m : Int) (v : V) (r : Bool) : Prop :=
  (fewM d m = none ∧ r = decide (v = .non)) ∨ ∃ c x, fewM d m = some (c, x) ∧ ((v = .non ∧ r = false) ∨ (∃ i, v = .int i ∧ r = false) ∨ (∃ l xs, v = .ref l ∧ SqL K H l xs ∧ r = false) ∨
    (∃ c' l xs p, v = .ref p ∧ SqT K H p [.int c', .ref l] ∧ SqL K H l xs ∧ r = false) ∨
    (∃ c' ns, PairI K H v (c', ns) ∧ (ns = [] ∨ (GoodD ns ∧ ns.length = d.length)) ∧ r = showT d m c c' ns))
theorem ShowV.mono {K : PySem.W.Frag} {H H' : Hp} {d : List Int} {m : Int} {v : V} {r : Bool} (h : ShowV K H d m v r) (e : Ext H H') : ShowV K H' d m v r := by
  rcases h with h | ⟨c, x, h0, h | h | ⟨l, xs, h1, h2, h3⟩ | ⟨c', l, xs, p, h1, h2, h3, h4⟩ | ⟨c', ns, h1, h2⟩⟩
  · exact .inl h
  · exact .inr ⟨c, x, h0, .inl h⟩
  · exact .inr ⟨c, x, h0, .inr (.inl h)⟩
  · exact .inr ⟨c, x, h0, .inr (.inr (.inl ⟨l, xs, h1, e.seq h2, h3⟩))⟩
  · exact .inr ⟨c, x, h0, .inr (.inr (.inr (.inl ⟨c', l, xs, p, h1, e.sqt h2, e.seq h3, h4⟩)))⟩
  · exact .inr ⟨c, x, h0, .inr (.inr (.inr (.inr ⟨c', ns, h1.mono e, h2⟩)))⟩
def spShows (K : PySem.W.Frag) (P1 : Addr) : Sp := fun vs H Q _ => ∃ (t : Addr) (d : List Int) (m : Int) (v : V) (r : Bool), vs = [.ref t, .int m, v] ∧ SqT K H t (d.map V.int) ∧ GoodD d ∧ 0 ≤ m ∧ m ≤ 3 ∧ GxR.TabG H P1 ∧ ShowV K H d m v r ∧ ∀ H', Ext H H' → Q (.bl r) H'
theorem areDep_nil : areDepM [] = false := by decide
section
variable {P : Program} {w : World} {K : PySem.W.Frag} {mg : Str → Option Value} {base : Heap} {P1 : Addr}
theorem ok_shows (B : Bt mg) (D : Df K mg "shows_fewest_sure" sShowsFewestSure ["deputies", "many", "value"]) (CN : Cal P w K mg base 4 "need_sure" ["deputies", "many"] (spNeedSure K P1)) (CF : Cal P w K mg base 3 "fewest_of" ["deputies", "many"] (spFewestOf K))
    (CI : Cal P w K mg base 1 "is_in" ["value", "least", "most"] spIsIn) (CA : Cal P w K mg base 2 "are_deputies" ["value"] (spAreDep K P1)) (CS : Cal P w K mg base 2 "shortest" ["deputies"] (spShortest K)) (CU : Cal P w K mg base 1 "unlike" ["one", "other"] (spUnlike K)) :
    Cal P w K mg base 5 "shows_fewest_sure" ["deputies", "many", "value"] (spShows K P1) := by
  refine D.ok scShowsFewestSure (fun vs H Q E h => ?_) (fun f cdv A outer s H vs Q E hr h => ?_)
  · obtain ⟨t, d, m, v, r, rfl, _⟩ := h
    rfl
  · obtain ⟨t, d, m, v, r, rfl, hT, g, h0, h3, hP, hv, q⟩ := h
    have hr3 : Room 3 _ := hr.mono (by decide)
    have hr2 : Room 2 _ := hr.mono (by decide)
    have hr1 : Room 1 _ := hr.mono (by decide)
    refine ⟨_, pss_cons (ps_expr (pe_c CN hr (by rfl) (pa_cons (pv 0) (pa_cons (pv 1) pa_nil))))
      (pss_cons (ps_set (i := 3) scShowsFewestSure.nd rfl (.inl rfl) (pe_c CF hr3 (by rfl) (pa_cons (pv 0) (pa_cons (pv 1) pa_nil))))
      (pss_cons (ps_if (PW.pt (pw_or (pt_cmp (pc_isN (pv 3)) rfl) (pw_or1 (pt_cmp (pc_isN (pv 2)) rfl)))) (pss_one (ps_ret (pe_and (pe_cmp (pc_isN (pv 3)) rfl) (pe_one (pe_cmp (pc_isN (pv 2)) rfl))))) pss_nil)
      (pss_cons (ps_if (PW.pt (pw_or (pt_not (pt_val (pe_callB call_isi (by rfl) B.isinstance PyProof.Rows.boot_isinstance (pa_cons (pv 2) (pa_cons (pe_bltn (v := .ty "tuple") (by rfl) B.tuple boot_tuple rfl) pa_nil)))))
          (pw_or (pt_cmpR op_ne (pe_callB call_len_seq (by rfl) B.len PySem.boot_len (pa_cons (pv 2) pa_nil)) pe_int (nomark _))
          (pw_or1 (pt_not (pt_val (pe_c CI hr1 (by rfl) (pa_cons (pe_ix ix_tup (pv 2) pe_int (fun _ _ => rfl)) (pa_cons (pe_ix ix_tup (pv 3) pe_int (fun _ _ => rfl)) (pa_cons (pe_ix ix_tup (pv 3) pe_int (fun _ _ => rfl)) pa_nil)))))))))) (pss_one (ps_ret pe_bl)) pss_nil)
      (pss_cons (ps_if (PW.pt (pw_or (pt_not (pt_val (pe_c CA hr2 (by rfl) (pa_cons (pe_ix ix_tup (pv 2) pe_int (fun _ _ => rfl)) pa_nil))))
          (pw_or (pt_cmpR op_ne (pe_callB call_len_seq (by rfl) B.len PySem.boot_len (pa_cons (pe_ix ix_tup (pv 2) pe_int (fun _ _ => rfl)) pa_nil)) (pe_callB call_len_seq (by rfl) B.len PySem.boot_len (pa_cons (pv 0) pa_nil)) (nomark _))
          (pw_or1 (pt_cmpR op_le (pe_c CS hr2 (by rfl) (pa_cons (pe_ix ix_tup (pv 2) pe_int (fun _ _ => rfl)) pa_nil)) (pv 1) (nomark _)))))) (pss_one (ps_ret pe_bl)) pss_nil)
      (pss_one (ps_ret (pe_cmpR op_eq (pe_c CU hr1 (by rfl) (pa_cons (pe_ix ix_tup (pv 2) pe_int (fun _ _ => rfl)) (pa_cons (pv 0) pa_nil))) (pe_ix ix_tup (pv 3) pe_int (fun _ _ => rfl)) (nomark _)))))))), ?_⟩
    refine ⟨.ref t, rfl, .int m, rfl, t, d, m, rfl, hT, g, h0, h3, hP, fun H1 e1 => ?_⟩
    refine ⟨.ref t, rfl, .int m, rfl, t, d, m, rfl, e1.sqt hT, g, fun H2 b e2 hb => ?_⟩
    have e12 := e1.trans e2
    have hv2 := hv.mono e12
    have q2 := fun H' (e : Ext H2 H') => q H' (e12.trans e)
    have hT2 := e12.sqt hT
    have hP2 := e12.tab _ hP
    rcases hv2 with ⟨hn, rfl⟩ | ⟨c, x, hs, hk⟩
    · -- best is None
      rw [hn] at hb
      obtain rfl : b = .non := hb
      refine ⟨.non, rfl, true, rfl, iteT (iteT ⟨.non, rfl, true, rfl, iteT ⟨v, rfl, ?_⟩⟩)⟩
      exact q2 H2 (Ext.refl H2)
    · rw [hs] at hb
      obtain ⟨pb, tb, rfl, hb1, hb2⟩ := hb
      have nb : decide (V.ref pb = V.non) = false := decide_eq_false (fun z => nomatch z)
      refine ⟨.ref pb, rfl, false, congrArg V.bl nb, iteF ⟨v, rfl, decide (v = .non), rfl, ?_⟩⟩
      rcases hk with ⟨rfl, rfl⟩ | ⟨i, rfl, rfl⟩ | ⟨l, xs, rfl, hl, rfl⟩ | ⟨c', l, xs, p, rfl, hp, hl, rfl⟩ | ⟨c', ns, ⟨p, tn, rfl, hp, hn⟩, hg, rfl⟩
      · rw [decide_eq_true rfl]
        exact iteT ⟨.ref pb, rfl, false, congrArg V.bl nb, iteF (q2 H2 (Ext.refl H2))⟩
      · rw [decide_eq_false (fun z => nomatch z)]
        refine iteF ⟨.int i, rfl, .int i, .ty "tuple", .type "int", .type "tuple", false, rfl, .ty _, .base (.int _), kit_ty (by decide +kernel), false, rfl, iteT (iteT (q2 H2 (Ext.refl H2)))⟩
      · rw [decide_eq_false (fun z => nomatch z)]
        refine iteF ⟨.ref l, rfl, .ref l, .ty "tuple", .type "list", .type "tuple", false, rfl, .ty _, tyx_lst hl, kit_ty (by decide +kernel), false, rfl, iteT (iteT (q2 H2 (Ext.refl H2)))⟩
      · rw [decide_eq_false (fun z => nomatch z)]
        refine iteF ⟨.ref p, rfl, .ref p, .ty "tuple", .type "tuple", .type "tuple", true, rfl, .ty _, tyx_tup hp, kit_ty (by decide +kernel), true, rfl, iteF ?_⟩
        refine ⟨.ref p, rfl, p, _, rfl, .inr hp, rfl, false, rfl, iteF ?_⟩
        refine ⟨.ref p, rfl, p, _, 0, .int c', rfl, rfl, hp, atI_nat (j := 0) rfl, .ref pb, rfl, pb, _, 0, .int c, rfl, rfl, hb1, atI_nat (j := 0) rfl, .ref pb, rfl, pb, _, 0, .int c, rfl, rfl, hb1, atI_nat (j := 0) rfl, c', c, c, rfl, decide (c ≤ c') && decide (c' ≤ c), rfl, ?_⟩
        by_cases hc : (decide (c ≤ c') && decide (c' ≤ c)) = true
        · rw [hc]
          refine iteF ?_
          refine ⟨.ref p, rfl, p, _, 1, .ref l, rfl, rfl, hp, atI_nat (j := 1) rfl, .inr ⟨l, xs, rfl, hl, fun H3 e3 => ⟨false, rfl, iteT (iteT (q2 H3 e3))⟩⟩⟩
        · rw [Bool.not_eq_true] at hc
          rw [hc]
          exact iteT (q2 H2 (Ext.refl H2))
      · rw [decide_eq_false (fun z => nomatch z)]
        refine iteF ⟨.ref p, rfl, .ref p, .ty "tuple", .type "tuple", .type "tuple", true, rfl, .ty _, tyx_tup hp, kit_ty (by decide +kernel), true, rfl, iteF ?_⟩
        refine ⟨.ref p, rfl, p, _, rfl, .inr hp, rfl, false, rfl, iteF ?_⟩
        refine ⟨.ref p, rfl, p, _, 0, .int c', rfl, rfl, hp, atI_nat (j := 0) rfl, .ref pb, rfl, pb, _, 0, .int c, rfl, rfl, hb1, atI_nat (j := 0) rfl, .ref pb, rfl, pb, _, 0, .int c, rfl, rfl, hb1, atI_nat (j := 0) rfl, c', c, c, rfl, decide (c ≤ c') && decide (c' ≤ c), rfl, ?_⟩
        by_cases hcc : c' = c
        · subst hcc
          rw [true_and (Int.le_refl _) (Int.le_refl _)]
          refine iteF ?_
          have hnl : ns.length ≤ 100 := by
            rcases hg with rfl | ⟨gn, _⟩
            · exact Nat.zero_le _
            · have := gn.2.1
              omega
          refine ⟨.ref p, rfl, p, _, 1, .ref tn, rfl, rfl, hp, atI_nat (j := 1) rfl, .inl ⟨tn, ns, rfl, hn, hnl, hP2, fun H3 e3 => ?_⟩⟩
          unfold showT at q2
          rw [decide_eq_true rfl, Bool.true_and] at q2
          rcases hg with rfl | ⟨gn, gl⟩
          · rw [areDep_nil]
            rw [decide_eq_false (by simp), Bool.false_and] at q2
            exact ⟨false, rfl, iteT (iteT (q2 H3 e3))⟩
          · have gn1 := gn.1
            have gn3 := gn.2.1
            have hne : ns ≠ [] := fun z => by rw [z] at gn1; cases gn1
            rw [decide_eq_true hne, Bool.true_and] at q2
            rw [gn.dep]
            refine ⟨true, rfl, iteF ?_⟩
            refine ⟨.ref p, rfl, p, _, 1, .ref tn, rfl, rfl, e3.sqt hp, atI_nat (j := 1) rfl, tn, _, rfl, .inr (e3.sqt hn), .ref t, rfl, t, _, rfl, .inr (e3.sqt hT2), rfl, false, ?_, iteF ?_⟩
            · rw [List.length_map, List.length_map, gl, decide_eq_true rfl]
              rfl
            refine ⟨.ref p, rfl, p, _, 1, .ref tn, rfl, rfl, e3.sqt hp, atI_nat (j := 1) rfl, tn, ns, rfl, e3.sqt hn, by omega, by omega, gn.ch, fun H4 e4 => ⟨.int m, rfl, _, _, rfl, rfl, decide (shortM ns ≤ m), rfl, ?_⟩⟩
            have e34 := e3.trans e4
            by_cases hm : shortM ns ≤ m
            · rw [decide_eq_true hm]
              rw [decide_eq_false (by omega), Bool.false_and] at q2
              exact iteT (q2 H4 e34)
            · rw [decide_eq_false hm]
              rw [decide_eq_true (by omega), Bool.true_and] at q2
              refine iteF ⟨.ref p, rfl, p, _, 1, .ref tn, rfl, rfl, e34.sqt hp, atI_nat (j := 1) rfl, .ref t, rfl, .ref tn, .ref t, ns, d, rfl, ⟨tn, rfl, e34.sqt hn⟩, ⟨t, rfl, e34.sqt hT2⟩, gl, by omega, fun H5 e5 => ?_⟩
              refine ⟨.ref pb, rfl, pb, _, 0, .int c', rfl, rfl, (e34.trans e5).sqt hb1, atI_nat (j := 0) rfl, rfl, ?_⟩
              have q3 := q2 H5 (e34.trans e5)
              have ed : decide (V.int (unlM ns d) = V.int c') = decide (unlM ns d = c') := by
                by_cases hh : unlM ns d = c'
                · rw [hh, decide_eq_true rfl, decide_eq_true rfl]
                · rw [decide_eq_false hh, decide_eq_false fun z => hh (V.int.inj z)]
              rw [← ed] at q3
              exact q3
        · have hc : (decide (c ≤ c') && decide (c' ≤ c)) = false := by
            by_cases h1 : c ≤ c'
            · rw [decide_eq_false (show ¬ c' ≤ c by omega), Bool.and_false]
            · rw [decide_eq_false h1, Bool.false_and]
          rw [hc]
          unfold showT at q2
          rw [decide_eq_false hcc, Bool.false_and] at q2
          exact iteT (q2 H2 (Ext.refl H2))
end
/-! ### both_out -/
def bothC (d : List Int) (a b : Int) (L : List (List Int)) : Int := ((L.filter fun s => decide (hdM d s a = -1) && decide (hdM d s b = -1)).length : Int)
def bothM (d : List Int) (m a b : Int) : List Int := ratM (bothC d a b (lotsOf d.length m)) ((lotsOf d.length m).length : Int)
def spBothOut (K : PySem.W.Frag) (P1 : Addr) : Sp := fun vs H Q _ => ∃ (t : Addr) (d : List Int) (m a b : Int), vs = [.ref t, .int m, .int a, .int b] ∧ SqT K H t (d.map V.int) ∧ GoodD d ∧ 0 ≤ m ∧ m ≤ d.length ∧ 0 ≤ a ∧ a < d.length ∧ 0 ≤ b ∧ b < d.length ∧ GxR.TabG H P1 ∧
  ∀ H' v, Ext H H' → TI K H' v (bothM d m a b) → Q v H'
theorem lotsOf_len : ∀ n ≤ 3, 1 ≤ n → ∀ m ≤ n, 0 < (lotsOf n (m : Int)).length ∧ (lotsOf n (m : Int)).length ≤ 8 := by decide +kernel
theorem lotsOf_pos {n : Nat} {m : Int} (h1 : 1 ≤ n) (h3 : n ≤ 3) (h0 : 0 ≤ m) (hm : m ≤ n) : 0 < (lotsOf n m).length ∧ (lotsOf n m).length ≤ 8 := by
  have h := lotsOf_len n h3 h1 m.toNat (by omega)
  rw [show ((m.toNat : Nat) : Int) = m by omega] at h
  exact h
theorem chM_at {d : List Int} (h : chOk d = true) {a : Int} (h0 : 0 ≤ a) (h1 : a < d.length) : chainRun d 5 [] a = some (chM d a) := by
  have := chOk_at h (i := a.toNat) (by omega)
  rw [show ((a.toNat : Nat) : Int) = a by omega] at this
  exact this
theorem dec_i {a b : Int} : decide (V.int a = V.int b) = decide (a = b) := by
  by_cases hh : a = b
  · rw [hh, decide_eq_true rfl, decide_eq_true rfl]
  · rw [decide_eq_false hh, decide_eq_false fun z => hh (V.int.inj z)]
section
variable {P : Program} {w : World} {K : PySem.W.Frag} {mg : Str → Option Value} {base : Heap} {P1 : Addr}
theorem ok_bothOut (B : Bt mg) (D : Df K mg "both_out" sBothOut ["deputies", "many", "one", "other"]) (CM : Cal P w K mg base 4 "need_many" ["deputies", "many"] (spNeedMany K P1)) (CP : Cal P w K mg base 2 "need_person" ["deputies", "person"] (spNeedPerson K))
    (CL : Cal P w K mg base 2 "lots_of" ["deputies", "many"] (spLotsOf K)) (CH : Cal P w K mg base 2 "holder_of" ["deputies", "gone", "person"] (spHolderOf K)) (CR : Cal P w K mg base 1 "ratio" ["top", "bottom"] (spRatio K)) :
    Cal P w K mg base 5 "both_out" ["deputies", "many", "one", "other"] (spBothOut K P1) := by
  refine D.ok scBothOut (fun vs H Q E h => ?_) (fun f cdv A outer s H vs Q E hr h => ?_)
  · obtain ⟨t, d, m, a, b, rfl, _⟩ := h
    rfl
  · obtain ⟨t, d, m, a, b, rfl, hT, g, m0, m1, a0, a1, b0, b1, hP, q⟩ := h
    have hr2 : Room 2 _ := hr.mono (by decide)
    have hr1 : Room 1 _ := hr.mono (by decide)
    refine ⟨_, pss_cons (ps_expr (pe_c CM hr (by rfl) (pa_cons (pv 0) (pa_cons (pv 1) pa_nil))))
      (pss_cons (ps_expr (pe_c CP hr2 (by rfl) (pa_cons (pv 0) (pa_cons (pv 2) pa_nil))))
      (pss_cons (ps_expr (pe_c CP hr2 (by rfl) (pa_cons (pv 0) (pa_cons (pv 3) pa_nil))))
      (pss_cons (ps_par (i := 4) (j := 5) (by rfl) scBothOut.nd rfl rfl (by decide) rfl rfl (pa_cons (pe_c CL hr2 (by rfl) (pa_cons (pv 0) (pa_cons (pv 1) pa_nil))) (pa_cons pe_int pa_nil)) (by rfl))
      (pss_cons (ps_for PassesOwn.never rfl (pi_list (pv 4)) (pg_name (i := 6) scBothOut.nd rfl (.inl rfl))
        (pss_one (ps_if (PW.pt (pw_and (pt_cmpR op_eq (pe_c CH hr2 (by rfl) (pa_cons (pv 0) (pa_cons (pv 6) (pa_cons (pv 2) pa_nil)))) (pe_un un_neg pe_int) (nomark _))
            (pw_and1 (pt_cmpR op_eq (pe_c CH hr2 (by rfl) (pa_cons (pv 0) (pa_cons (pv 6) (pa_cons (pv 3) pa_nil)))) (pe_un un_neg pe_int) (nomark _)))))
          (pss_one (ps_set (i := 5) scBothOut.nd rfl (.inl rfl) (pe_op op_add (pv 5) pe_int))) pss_nil)))
      (pss_one (ps_ret (pe_c CR hr1 (by rfl) (pa_cons (pv 5) (pa_cons (pe_callB call_len_seq (by rfl) B.len PySem.boot_len (pa_cons (pv 4) pa_nil)) pa_nil))))))))), ?_⟩
    refine ⟨.ref t, rfl, .int m, rfl, t, d, m, rfl, hT, g, m0, m1, hP, fun H1 e1 => ?_⟩
    refine ⟨.ref t, rfl, .int a, rfl, t, d, a, rfl, e1.sqt hT, a0, a1, ?_⟩
    refine ⟨.ref t, rfl, .int b, rfl, t, d, b, rfl, e1.sqt hT, b0, b1, ?_⟩
    refine ⟨.ref t, rfl, .int m, rfl, t, d, m, rfl, e1.sqt hT, g.1, g.2.1, fun H2 l ys e2 nl hl hL => ⟨.ref l, .int 0, rfl, .ref l, rfl, l, rfl, ⟨_, SqL.of hl⟩, ?_⟩⟩
    have e12 := e1.trans e2
    refine for_list (K := K) (a := l) (xs := ys) (fun i σ H3 => ∃ o, σ = [some (.ref t), some (.int m), some (.int a), some (.int b), some (.ref l), some (.int (bothC d a b ((lotsOf d.length m).take i))), o] ∧ Ext H2 H3) ⟨_, rfl, Ext.refl _⟩ (fun i σ H3 _ ⟨_, _, e⟩ => SqL.of (e.lst hl)) ?_ ?_
    · rintro i y σ H3 hy ⟨o, rfl, e3⟩
      obtain ⟨s, hs, ts, rfl, hts⟩ := LT.get (hL.mono e3) hy
      have e13 := e12.trans e3
      have htk : (lotsOf d.length m).take (i + 1) = (lotsOf d.length m).take i ++ [s] := by
        obtain ⟨hlt, es⟩ := List.getElem?_eq_some_iff.mp hs
        rw [List.take_succ_eq_append_getElem hlt, es]
      have hno : ∀ H5, Ext H2 H5 → (decide (hdM d s a = -1) && decide (hdM d s b = -1)) = false → ∃ o, [some (V.ref t), some (V.int m), some (V.int a), some (V.int b), some (V.ref l), some (V.int (bothC d a b ((lotsOf d.length m).take i))), some (V.ref ts)] =
          [some (V.ref t), some (V.int m), some (V.int a), some (V.int b), some (V.ref l), some (V.int (bothC d a b ((lotsOf d.length m).take (i + 1)))), o] ∧ Ext H2 H5 := fun H5 e5 hb => by
        refine ⟨some (.ref ts), ?_, e5⟩
        rw [htk]
        unfold bothC
        rw [List.filter_append, List.filter_cons, if_neg (by rw [hb]; decide)]
        simp only [List.filter_nil, List.append_nil]
      refine ⟨.ref t, rfl, .ref ts, rfl, .int a, rfl, t, ts, d, s, a, chM d a, rfl, e13.sqt hT, hts, chM_at g.ch a0 a1, fun H4 e4 => ⟨1, rfl, rfl, decide (V.int (hdM d s a) = V.int (-1)), rfl, ?_⟩⟩
      rw [dec_i]
      by_cases ha : hdM d s a = -1
      · rw [decide_eq_true ha]
        refine iteT ⟨.ref t, rfl, .ref ts, rfl, .int b, rfl, t, ts, d, s, b, chM d b, rfl, (e13.trans e4).sqt hT, e4.sqt hts, chM_at g.ch b0 b1, fun H5 e5 => ⟨1, rfl, rfl, decide (V.int (hdM d s b) = V.int (-1)), rfl, ?_⟩⟩
        rw [dec_i]
        by_cases hb : hdM d s b = -1
        · rw [decide_eq_true hb]
          refine iteT ⟨_, rfl, _, _, rfl, rfl, some (.ref ts), ?_, (e3.trans e4).trans e5⟩
          rw [htk]
          unfold bothC
          rw [List.filter_append, List.filter_cons, if_pos (by rw [decide_eq_true ha, decide_eq_true hb]; rfl)]
          simp only [List.filter_nil, List.length_append, List.length_singleton]
          rfl
        · rw [decide_eq_false hb]
          exact iteF (hno H5 ((e3.trans e4).trans e5) (by rw [decide_eq_false hb, Bool.and_false]))
      · rw [decide_eq_false ha]
        exact iteF (hno H4 (e3.trans e4) (by rw [decide_eq_false ha, Bool.false_and]))
    · rintro σ H3 ⟨o, rfl, e3⟩
      rw [hL.len, List.take_length]
      obtain ⟨p1, p2⟩ := lotsOf_pos (m := m) g.1 g.2.1 m0 m1
      refine ⟨_, rfl, .ref l, rfl, l, ys, rfl, .inl (SqL.of (e3.lst hl)), bothC d a b (lotsOf d.length m), ((lotsOf d.length m).length : Int), ?_, by omega, by omega, fun H4 v e4 hv => q H4 v ((e12.trans e3).trans e4) hv⟩
      rw [hL.len]
end
end Ft
namespace Ft
open PySem PySem.Spec PyProof.Rows L2
/-! ### _law_taken -/
def RowV (sc : Addr) (i m c : Int) : List V := [.ref sc, .int i, .int m, .int c]
theorem sq_row {K : PySem.W.Frag} {H : Hp} {r sc sc' : Addr} {i m c : Int} {ns : List Int} {o : HO} (h : SqL K H sc (ns.map V.int)) (hr : H r = some (.lst (RowV sc' i m c))) : SqL K (upd H r o) sc (ns.map V.int) := by
  rcases h with (h | ⟨o', h⟩) | h
  · have n : sc ≠ r := fun z => by
      rw [z, hr] at h
      have h2 : RowV sc' i m c = ns.map V.int := by injection h with h; injection h
      cases ns with
      | nil => cases h2
      | cons x r => unfold RowV at h2; rw [List.map_cons] at h2; injection h2 with h3 _; cases h3
    exact .inl (.inl (by rw [upd_ne n]; exact h))
  · have n : sc ≠ r := fun z => by rw [z, hr] at h; cases h
    exact .inl (.inr ⟨o', by rw [upd_ne n]; exact h⟩)
  · exact .inr h
theorem sq_hidrow {K : PySem.W.Frag} {H : Hp} {r sc sc' : Addr} {i m c : Int} {ns : List Int} (h : SqL K H sc (ns.map V.int)) (hr : H r = some (.lst (RowV sc' i m c))) : SqL K (hid r H) sc (ns.map V.int) := by
  rcases h with (h | ⟨o', h⟩) | h
  · have n : sc ≠ r := fun z => by
      rw [z, hr] at h
      have h2 : RowV sc' i m c = ns.map V.int := by injection h with h; injection h
      cases ns with
      | nil => cases h2
      | cons x r => unfold RowV at h2; rw [List.map_cons] at h2; injection h2 with h3 _; cases h3
    exact .inl (.inl (by rw [hid_ne n]; exact h))
  · have n : sc ≠ r := fun z => by rw [z, hr] at h; cases h
    exact .inl (.inr ⟨o', by rw [hid_ne n]; exact h⟩)
  · exact .inr h
def RowOk (H : Hp) (r sc : Addr) : Prop := ∃ i m c : Int, H r = some (.lst (RowV sc i m c)) ∧ 0 ≤ i ∧ 0 ≤ m ∧ m < 2147483647
def spTaken (K : PySem.W.Frag) : Sp := fun vs H Q _ => ∃ (r sc : Addr) (ns : List Int) (n : Int), vs = [.ref r, .int n] ∧ 0 < n ∧ n < 1000 ∧ RowOk H r sc ∧ SqL K H sc (ns.map V.int) ∧
  ∀ k i' m' c' : Int, 0 ≤ k → k < n → 0 ≤ i' → 0 ≤ m' → m' < 2147483647 → Q (.int k) (upd H r (.lst (RowV sc i' m' c')))
theorem ixN4 {z : Int} {j : Nat} (e : z = (j : Int)) (h : j < 4) : ixN 4 z = some j := by
  subst e
  unfold ixN
  rw [if_pos (by omega), if_pos (by omega)]
  simp
section
variable {P : Program} {w : World} {K : PySem.W.Frag} {mg : Str → Option Value} {base : Heap}
theorem ok_taken (B : Bt mg) (D : Df K mg "_law_taken" sLawTaken ["_law_row", "_law_many"]) : Cal P w K mg base 1 "_law_taken" ["_law_row", "_law_many"] (spTaken K) := by
  refine D.ok scLawTaken (fun vs H Q E h => ?_) (fun f cdv A outer s H vs Q E hr h => ?_)
  · obtain ⟨r, sc, ns, n, rfl, _⟩ := h
    rfl
  · obtain ⟨r, sc, ns, n, rfl, n0, n1, ⟨i, m, c, hR, i0, m0, m1⟩, hS, q⟩ := h
    have nd := scLawTaken.nd
    refine ⟨_, pss_cons (ps_if (pt_cmpR op_gt (pe_ix ix_list (pv 0) pe_int (fun _ _ => rfl)) pe_int (nomark _))
        (pss_cons (ps_set (i := 2) nd rfl (.inl rfl) (pe_op op_mod (pe_callTy call_int1 (by rfl) B.int boot_int (pa_cons (pe_ix ix_list (pv 0) pe_int (fun _ _ => rfl)) pa_nil)) (pv 1)))
        (pss_cons (ps_asg (pe_op op_fdiv (pe_ix ix_list (pv 0) pe_int (fun _ _ => rfl)) (pv 1)) (pg_sub (pv 0) pe_int set_list))
        (pss_one (ps_ret (pv 2))))) pss_nil)
      (pss_cons (ps_asg (pe_op op_add (pe_ix ix_list (pv 0) pe_int (fun _ _ => rfl)) pe_int) (pg_sub (pv 0) pe_int set_list))
      (pss_cons (ps_if (pt_cmpR op_gt (pe_ix ix_list (pv 0) pe_int (fun _ _ => rfl)) (pe_callB call_len_seq (by rfl) B.len PySem.boot_len (pa_cons (pe_ix ix_list (pv 0) pe_int (fun _ _ => rfl)) pa_nil)) (nomark _))
        (pss_cons (ps_asg (pe_op op_mod (pe_callTy call_int1 (by rfl) B.int boot_int (pa_cons (pe_op op_add (pe_op op_mul (pe_ix ix_list (pv 0) pe_int (fun _ _ => rfl)) pe_int) pe_int) pa_nil)) pe_int) (pg_sub (pv 0) pe_int set_list))
        (pss_one (ps_ret (pe_op op_mod (pe_callTy call_int1 (by rfl) B.int boot_int (pa_cons (pe_op op_fdiv (pe_ix ix_list (pv 0) pe_int (fun _ _ => rfl)) pe_int) pa_nil)) (pv 1))))) pss_nil)
      (pss_cons (ps_set (i := 3) nd rfl (.inl rfl) (pe_ix ix_list (pe_ix ix_list (pv 0) pe_int (fun _ _ => rfl)) (pe_op op_sub (pe_ix ix_list (pv 0) pe_int (fun _ _ => rfl)) pe_int) (fun _ _ => rfl)))
      (pss_cons (ps_asg (pe_op op_mod (pe_callTy call_int1 (by rfl) B.int boot_int (pa_cons (pe_op op_add (pe_op op_add (pe_op op_mul (pe_ix ix_list (pv 0) pe_int (fun _ _ => rfl)) pe_int) (pv 3)) pe_int) pa_nil)) pe_int) (pg_sub (pv 0) pe_int set_list))
      (pss_cons (ps_if (pt_cmpR op_ge (pv 3) (pe_op op_pow pe_int pe_int) (nomark _)) (pss_one (ps_asg (pe_op op_fdiv (pv 3) (pv 1)) (pg_sub (pv 0) pe_int set_list))) pss_nil)
      (pss_one (ps_ret (pe_op op_mod (pe_callTy call_int1 (by rfl) B.int boot_int (pa_cons (pv 3) pa_nil)) (pv 1))))))))), ?_⟩
    refine ⟨.ref r, rfl, r, _, 3, .int c, rfl, rfl, SqL.of hR, atI_nat (j := 3) rfl, c, 0, rfl, rfl, decide (0 < c), rfl, ?_⟩
    by_cases hc : 0 < c
    · rw [decide_eq_true hc]
      refine iteT ⟨.ref r, rfl, r, _, 3, .int c, rfl, rfl, SqL.of hR, atI_nat (j := 3) rfl, .inl ⟨c, rfl, .int n, rfl, c, n, rfl, rfl, n0, ?_⟩⟩
      refine ⟨.ref r, rfl, r, _, 3, .int c, rfl, rfl, SqL.of hR, atI_nat (j := 3) rfl, .int n, rfl, c, n, rfl, rfl, ⟨n0, by omega⟩, .ref r, rfl, r, _, 3, 3, rfl, rfl, hR, ixN4 rfl (by decide), ?_⟩
      exact ⟨.int (c % n), rfl, q (c % n) i m (c / n) (Int.emod_nonneg _ (by omega)) (Int.emod_lt_of_pos _ n0) i0 m0 m1⟩
    · rw [decide_eq_false hc]
      refine iteF ⟨.ref r, rfl, r, _, 1, .int i, rfl, rfl, SqL.of hR, atI_nat (j := 1) rfl, i, 1, rfl, rfl, .ref r, rfl, r, _, 1, 1, rfl, rfl, hR, ixN4 rfl (by decide), ?_⟩
      have hR1 : (upd H r (.lst (RowV sc (i + 1) m c))) r = some (.lst (RowV sc (i + 1) m c)) := upd_same
      have hS1 : SqL K (upd H r (.lst (RowV sc (i + 1) m c))) sc (ns.map V.int) := sq_row hS hR
      refine ⟨.ref r, rfl, r, _, 1, .int (i + 1), rfl, rfl, SqL.of hR1, atI_nat (j := 1) rfl, .ref r, rfl, r, _, 0, .ref sc, rfl, rfl, SqL.of hR1, atI_nat (j := 0) rfl, sc, _, rfl, .inl hS1, i + 1, _, rfl, rfl, decide (((ns.map V.int).length : Int) < i + 1), rfl, ?_⟩
      rw [List.length_map]
      by_cases hl : (ns.length : Int) < i + 1
      · rw [decide_eq_true hl]
        refine iteT ⟨.ref r, rfl, r, _, 2, .int m, rfl, rfl, SqL.of hR1, atI_nat (j := 2) rfl, m, 48271, rfl, rfl, .inr ⟨by decide, by decide⟩, _, 11, rfl, rfl, .inl ⟨_, rfl, _, 2147483647, rfl, rfl, (by show (0 : Int) < 2147483647; decide), .ref r, rfl, r, _, 2, 2, rfl, rfl, hR1, ixN4 rfl (by decide), ?_⟩⟩
        rw [upd_upd]
        have hm0 : 0 ≤ (m * 48271 + 11) % 2147483647 := Int.emod_nonneg _ (by decide)
        have hm1 : (m * 48271 + 11) % 2147483647 < 2147483647 := Int.emod_lt_of_pos _ (by decide)
        refine ⟨.ref r, rfl, r, RowV sc (i + 1) ((m * 48271 + 11) % 2147483647) c, 2, .int ((m * 48271 + 11) % 2147483647), rfl, rfl, SqL.of upd_same, atI_nat (j := 2) rfl, _, 7, rfl, rfl, ⟨by decide, by decide⟩, .inl ⟨_, rfl, .int n, rfl, _, n, rfl, rfl, n0, ?_⟩⟩
        exact q _ (i + 1) ((m * 48271 + 11) % 2147483647) c (Int.emod_nonneg _ (by omega)) (Int.emod_lt_of_pos _ n0) (by omega) hm0 hm1
      · rw [decide_eq_false hl]
        obtain ⟨x, hx⟩ : ∃ x, ns[i.toNat]? = some x := ⟨_, List.getElem?_eq_getElem (by omega)⟩
        refine iteF ⟨.ref r, rfl, r, _, 0, .ref sc, rfl, rfl, SqL.of hR1, atI_nat (j := 0) rfl, .ref r, rfl, r, _, 1, .int (i + 1), rfl, rfl, SqL.of hR1, atI_nat (j := 1) rfl, i + 1, 1, rfl, rfl, sc, _, i + 1 - 1, .int x, rfl, rfl, hS1, ?_, ?_⟩
        · rw [show i + 1 - 1 = ((i.toNat : Nat) : Int) by omega]
          exact atI_nat (map_get hx)
        refine ⟨.ref r, rfl, r, _, 2, .int m, rfl, rfl, SqL.of hR1, atI_nat (j := 2) rfl, m, 48271, rfl, rfl, .inr ⟨by decide, by decide⟩, .int x, rfl, _, x, rfl, rfl, _, 11, rfl, rfl, .inl ⟨_, rfl, _, 2147483647, rfl, rfl, (by show (0 : Int) < 2147483647; decide), .ref r, rfl, r, _, 2, 2, rfl, rfl, hR1, ixN4 rfl (by decide), ?_⟩⟩
        rw [upd_upd]
        have hm0 : 0 ≤ (m * 48271 + x + 11) % 2147483647 := Int.emod_nonneg _ (by decide)
        have hm1 : (m * 48271 + x + 11) % 2147483647 < 2147483647 := Int.emod_lt_of_pos _ (by decide)
        refine ⟨.int x, rfl, 10, 18, rfl, rfl, ⟨by decide, by decide, by decide⟩, x, _, rfl, rfl, decide ((10 : Int) ^ (18 : Int).toNat ≤ x), rfl, ?_⟩
        by_cases hx2 : (10 : Int) ^ (18 : Int).toNat ≤ x
        · rw [decide_eq_true hx2]
          refine iteT ⟨.int x, rfl, .int n, rfl, x, n, rfl, rfl, ⟨n0, by omega⟩, .ref r, rfl, r, RowV sc (i + 1) ((m * 48271 + x + 11) % 2147483647) c, 3, 3, rfl, rfl, upd_same, ixN4 rfl (by decide), ?_⟩
          rw [upd_upd]
          refine ⟨.int x, rfl, .inl ⟨_, rfl, .int n, rfl, _, n, rfl, rfl, n0, ?_⟩⟩
          exact q _ (i + 1) ((m * 48271 + x + 11) % 2147483647) (x / n) (Int.emod_nonneg _ (by omega)) (Int.emod_lt_of_pos _ n0) (by omega) hm0 hm1
        · rw [decide_eq_false hx2]
          refine iteF ⟨.int x, rfl, .inl ⟨_, rfl, .int n, rfl, _, n, rfl, rfl, n0, ?_⟩⟩
          exact q _ (i + 1) ((m * 48271 + x + 11) % 2147483647) c (Int.emod_nonneg _ (by omega)) (Int.emod_lt_of_pos _ n0) (by omega) hm0 hm1
end
/-! ### _law_deputies -/
def spLawDeps (K : PySem.W.Frag) : Sp := fun vs H Q _ => ∃ (r sc : Addr) (ns : List Int) (n : Nat), vs = [.ref r, .int (n : Int)] ∧ 1 ≤ n ∧ n ≤ 3 ∧ RowOk H r sc ∧ SqL K H sc (ns.map V.int) ∧
  ∀ H' t d, Ext (hid r H) (hid r H') → RowOk H' r sc → SqL K H' sc (ns.map V.int) → hid r H' t = some (.tup (d.map V.int)) → d ∈ depsM n → Q (.ref t) H'
theorem mem_opts {n p : Nat} {x : Int} (h0 : -1 ≤ x) (h1 : x < n) (h2 : x ≠ p) : x ∈ opts n p := by
  unfold opts
  refine List.mem_map.mpr ⟨(x + 1).toNat, List.mem_filter.mpr ⟨List.mem_range.mpr (by omega), ?_⟩, by omega⟩
  rw [show (-1 : Int) + ((x + 1).toNat : Int) = x by omega, decide_eq_false h2]
  rfl
theorem depsRaw_len2 (n : Nat) : ∀ p, ∀ s ∈ depsRaw n p, s.length = p
  | 0, s, h => by
    have : s = [] := by simpa [depsRaw] using h
    rw [this]; rfl
  | p + 1, s, h => by
    obtain ⟨a, ha, h2⟩ := List.mem_flatMap.mp (show s ∈ (depsRaw n p).flatMap _ from h)
    obtain ⟨x, _, rfl⟩ := List.mem_map.mp h2
    rw [List.length_append, depsRaw_len2 n p a ha]
    rfl
section
variable {P : Program} {w : World} {K : PySem.W.Frag} {mg : Str → Option Value} {base : Heap}
theorem ok_lawDeps (B : Bt mg) (D : Df K mg "_law_deputies" sLawDeputies ["_law_row", "_law_size"]) (CT : Cal P w K mg base 1 "_law_taken" ["_law_row", "_law_many"] (spTaken K)) : Cal P w K mg base 2 "_law_deputies" ["_law_row", "_law_size"] (spLawDeps K) := by
  refine D.ok scLawDeputies (fun vs H Q E h => ?_) (fun f cdv A outer s H vs Q E hr h => ?_)
  · obtain ⟨r, sc, ns, n, rfl, _⟩ := h
    rfl
  · obtain ⟨r, sc, ns, n, rfl, n1, n3, hR, hS, q⟩ := h
    have nd := scLawDeputies.nd
    refine ⟨_, pss_cons (ps_set (i := 2) nd rfl (.inl rfl) (pe_lst pa_nil))
      (pss_cons (ps_for PassesOwn.never rfl (pi_range1 (by rfl) B.range (pa_cons (pv 1) pa_nil)) (pg_name (i := 3) nd rfl (.inl rfl))
        (pss_cons (ps_set (i := 4) nd rfl (.inl rfl) (pe_op op_sub (pe_c CT hr (by rfl) (pa_cons (pv 0) (pa_cons (pv 1) pa_nil))) pe_int))
        (pss_one (ps_expr (pe_bm PySem.F.plainAttrs_list PySem.F.slot_list_append PySem.F.type_list_append mt_append (pv 2) (pa_cons (pe_op op_add (pv 4) (pe_callTy call_int1 (by rfl) B.int boot_int (pa_cons (pe_cmpR op_ge (pv 4) (pv 3) (nomark _)) pa_nil))) pa_nil))))))
      (pss_one (ps_ret (pe_callTy call_tuple_of (by rfl) B.tuple boot_tuple (pa_cons (pv 2) pa_nil))))), ?_⟩
    refine ⟨Nat.zero_le _, fun l nl => ⟨.int (n : Int), rfl, (n : Int), rfl, by omega, by omega, ?_⟩⟩
    rw [Int.toNat_natCast]
    have hrl : r ≠ l := fun z => by
      obtain ⟨i, m, c, e, _⟩ := hR
      rw [z, nl] at e
      cases e
    have e0 : Ext (hid r H) (hid r (upd H l (.lst []))) := (Ext.new nl).hidden r
    have hS0 : SqL K (hid r H) sc (ns.map V.int) := by
      obtain ⟨i, m, c, e, _⟩ := hR
      exact sq_hidrow hS e
    refine for_range (lo := 0) (n := n) (fun i σ H2 => i ≤ n ∧ ∃ o3 o4 fd, σ = [some (.ref r), some (.int (n : Int)), some (.ref l), o3, o4] ∧ Ext (hid r H) (hid r H2) ∧ RowOk H2 r sc ∧ H2 l = some (.lst (fd.map V.int)) ∧ fd ∈ depsRaw n i)
      ⟨Nat.zero_le _, none, none, [], rfl, e0, ?_, upd_same, List.mem_cons_self⟩ ?_ ?_
    · obtain ⟨i, m, c, e, h⟩ := hR
      exact ⟨i, m, c, by rw [upd_ne hrl]; exact e, h⟩
    · rintro i σ H2 hi ⟨_, o3, o4, fd, rfl, e2, hR2, hl, hfd⟩
      have hS2 := (ext_hid r H2).seq (e2.seq hS0)
      refine ⟨.ref r, rfl, .int (n : Int), rfl, r, sc, ns, (n : Int), rfl, by omega, by omega, hR2, hS2, fun k i' m' c' k0 k1 i0 m0 m1 => ⟨k, 1, rfl, rfl, ?_⟩⟩
      have hl3 : (upd H2 r (.lst (RowV sc i' m' c'))) l = some (.lst (fd.map V.int)) := by rw [upd_ne hrl.symm]; exact hl
      refine ⟨.ref l, rfl, .inl ⟨rfl, _, SqL.of hl3⟩, .int (k - 1), rfl, .int (k - 1), rfl, .int (0 + (i : Int)), rfl, k - 1, 0 + (i : Int), rfl, rfl, .inr ⟨decide (0 + (i : Int) ≤ k - 1), rfl, k - 1, _, rfl, rfl, ?_⟩⟩
      have hfl := depsRaw_len2 n i fd hfd
      refine ⟨l, _, _, rfl, rfl, hl3, szl (by rw [List.length_map]; omega), ?_⟩
      refine ⟨hi, _, _, fd ++ [k - 1 + (if decide (0 + (i : Int) ≤ k - 1) = true then 1 else 0)], rfl, ?_, ?_, ?_, ?_⟩
      · refine ⟨fun b o h nt => ?_, fun b h => ?_, fun b h => ?_⟩
        · have h2 := e2.keep b o h nt
          obtain ⟨hb, h3⟩ := hid_of h2
          have hbl : b ≠ l := fun z => by
            have := (hid_of h).2
            rw [z, nl] at this
            cases this
          rw [hid_ne hb, upd_ne hbl, upd_ne hb]
          exact h3
        · obtain ⟨ps, h2, k2⟩ := e2.tab b h
          obtain ⟨hb, h3⟩ := hid_of h2
          have hbl : b ≠ l := fun z => by rw [z, hl] at h3; cases h3
          exact ⟨ps, by rw [hid_ne hb, upd_ne hbl, upd_ne hb]; exact h3, k2⟩
        · by_cases hb : b = r
          · rw [hb]; exact hid_same
          · rw [hid_ne hb] at h
            by_cases hbl : b = l
            · rw [hbl, upd_same] at h; cases h
            · rw [upd_ne hbl, upd_ne hb] at h
              exact e2.free b (by rw [hid_ne hb]; exact h)
      · exact ⟨i', m', c', by rw [upd_ne hrl, upd_same], i0, m0, m1⟩
      · rw [upd_same, List.map_append]
        rfl
      · refine List.mem_flatMap.mpr ⟨fd, hfd, List.mem_map.mpr ⟨_, mem_opts ?_ ?_ ?_, rfl⟩⟩
        all_goals
          by_cases h1 : 0 + (i : Int) ≤ k - 1
          · rw [decide_eq_true h1, if_pos rfl]
            omega
          · rw [decide_eq_false h1, if_neg (by decide)]
            omega
    · rintro σ H2 ⟨_, o3, o4, fd, rfl, e2, hR2, hl, hfd⟩
      obtain ⟨i, m, c, eR, hb⟩ := hR2
      refine ⟨.ref l, rfl, l, _, rfl, .inl ⟨SqL.of hl, fun t nt => ?_⟩⟩
      have htr : r ≠ t := ne_of_none eR nt
      have e3 : Ext (hid r H2) (hid r (upd H2 t (.tup (fd.map V.int)))) := (Ext.new nt).hidden r
      refine q _ t fd (e2.trans e3) ⟨i, m, c, by rw [upd_ne htr]; exact eR, hb⟩ ((ext_hid r _).seq ((e2.trans e3).seq hS0)) ?_ hfd
      rw [hid_ne htr.symm, upd_same]
end
end Ft
namespace Ft
open PySem PySem.Spec PyProof.Rows L2
/-! ### _law_ratio, _law_plus, _law_by -/
def plusM (x y : List Int) : List Int := ratM (x.getD 0 0 * y.getD 1 0 + y.getD 0 0 * x.getD 1 0) (x.getD 1 0 * y.getD 1 0)
def spPlus (K : PySem.W.Frag) : Sp := fun vs H Q _ => ∃ (a b : V) (x y : List Int), vs = [a, b] ∧ TI K H a x ∧ TI K H b y ∧ smallP x = true ∧ smallP y = true ∧ ∀ H' v, Ext H H' → TI K H' v (plusM x y) → Q v H'
section
variable {P : Program} {w : World} {K : PySem.W.Frag} {mg : Str → Option Value} {base : Heap}
theorem ok_lawRatio (B : Bt mg) (D : Df K mg "_law_ratio" sLawRatio ["_law_top", "_law_bottom"]) : Cal P w K mg base 1 "_law_ratio" ["_law_top", "_law_bottom"] (spRatio K) := by
  refine D.ok scLawRatio (fun vs H Q E h => ?_) (fun f cdv A outer s H vs Q E hr h => ?_)
  · obtain ⟨a, b, rfl, _⟩ := h
    rfl
  · obtain ⟨a, b, rfl, h1, h2, q⟩ := h
    have nd := scLawRatio.nd
    obtain ⟨g1, g2⟩ := gcd_pos (a := a) h1
    refine ⟨_, pss_cons (ps_par (i := 2) (j := 3) (by rfl) nd rfl rfl (by decide) rfl rfl (pa_cons (pe_callB call_abs (by rfl) B.abs PyProof.Rows.boot_abs (pa_cons (pv 0) pa_nil)) (pa_cons (pe_callB call_abs (by rfl) B.abs PyProof.Rows.boot_abs (pa_cons (pv 1) pa_nil)) pa_nil)) (by rfl))
      (pss_cons (ps_while PassesOwn.never (pt_cmpR op_ne (pv 3) pe_int (nomark _))
        (pss_one (ps_par (i := 2) (j := 3) (by rfl) nd rfl rfl (by decide) rfl rfl (pa_cons (pv 3) (pa_cons (pe_op op_mod (pe_callTy call_int1 (by rfl) B.int boot_int (pa_cons (pv 2) pa_nil)) (pv 3)) pa_nil)) (by rfl))))
      (pss_one (ps_ret (pe_ifExp (pt_cmpR op_gt (pv 1) pe_int (nomark _)) (pe_tup (pa_cons (pe_op op_fdivN (pv 0) (pv 2)) (pa_cons (pe_op op_fdivN (pv 1) (pv 2)) pa_nil)))
        (pe_tup (pa_cons (pe_op op_sub pe_int (pe_op op_fdivN (pv 0) (pv 2))) (pa_cons (pe_op op_sub pe_int (pe_op op_fdivN (pv 1) (pv 2))) pa_nil))))))), ?_⟩
    refine ⟨.int a, rfl, a, rfl, .int b, rfl, b, rfl, _, _, rfl, ?_⟩
    have ea : (if a < 0 then -a else a) = ((a.natAbs : Nat) : Int) := by split <;> omega
    have eb : (if b < 0 then -b else b) = ((b.natAbs : Nat) : Int) := by split <;> omega
    rw [ea, eb]
    refine ⟨fun m σ H' => ∃ x y : Nat, σ = [some (.int a), some (.int b), some (.int (x : Int)), some (.int (y : Int))] ∧ H' = H ∧ m = y ∧ Nat.gcd x y = Nat.gcd a.natAbs b.natAbs, ⟨b.natAbs, a.natAbs, b.natAbs, rfl, rfl, rfl, rfl⟩, fun m σ H1 hW => ?_⟩
    obtain ⟨x, y, rfl, rfl, rfl, hg⟩ := hW
    refine ⟨.int (m : Int), rfl, rfl, !decide (V.int (m : Int) = V.int 0), rfl, ?_⟩
    by_cases hy : m = 0
    · subst hy
      rw [decide_eq_true (show V.int ((0 : Nat) : Int) = V.int 0 from rfl)]
      rw [Nat.gcd_zero_right] at hg
      have ex : (x : Int) = gcdM a b := by
        unfold gcdM
        rw [hg]
      rw [ex]
      refine iteF ⟨.int b, rfl, b, 0, rfl, rfl, decide (0 < b), rfl, ?_⟩
      rw [decide_eq_true h1]
      refine iteT ⟨.int a, rfl, .int (gcdM a b), rfl, a, gcdM a b, rfl, rfl, ⟨by omega, by omega⟩, .int b, rfl, .int (gcdM a b), rfl, b, gcdM a b, rfl, rfl, ⟨by omega, by omega⟩, by show 2 ≤ sizeLine; decide, fun p np => ?_⟩
      exact q _ _ (Ext.new np) ⟨p, rfl, SqT.of upd_same⟩
    · rw [decide_eq_false (fun z => hy (by have := V.int.inj z; omega))]
      refine iteT ⟨fun σ' H' => ∃ x' y' : Nat, σ' = [some (.int a), some (.int b), some (.int (x' : Int)), some (.int (y' : Int))] ∧ H' = H1 ∧ y' < m ∧ Nat.gcd x' y' = Nat.gcd a.natAbs b.natAbs, fun σ' H' hN => ?_, ?_⟩
      · obtain ⟨x', y', e1, e2, e3, e4⟩ := hN
        exact ⟨y', e3, x', y', e1, e2, rfl, e4⟩
      · refine ⟨.int (m : Int), rfl, .int (x : Int), rfl, .inl ⟨(x : Int), rfl, .int (m : Int), rfl, (x : Int), (m : Int), rfl, rfl, ?_, _, _, rfl, ?_⟩⟩
        · show (0 : Int) < (m : Int)
          omega
        · refine ⟨m, x % m, rfl, rfl, Nat.mod_lt _ (by omega), ?_⟩
          rw [← hg, Nat.gcd_comm x m, Nat.gcd_rec m x, Nat.gcd_comm]
theorem ok_lawPlus (D : Df K mg "_law_plus" sLawPlus ["_law_one", "_law_other"]) (CR : Cal P w K mg base 1 "_law_ratio" ["_law_top", "_law_bottom"] (spRatio K)) : Cal P w K mg base 2 "_law_plus" ["_law_one", "_law_other"] (spPlus K) := by
  refine D.ok scLawPlus (fun vs H Q E h => ?_) (fun f cdv A outer s H vs Q E hr h => ?_)
  · obtain ⟨a, b, x, y, rfl, _⟩ := h
    rfl
  · obtain ⟨_, _, x, y, rfl, ⟨ta, rfl, hx⟩, ⟨tb, rfl, hy⟩, sx, sy, q⟩ := h
    obtain ⟨a, b, rfl, a1, a2, b1, b2⟩ := small_of sx
    obtain ⟨c, d, rfl, c1, c2, d1, d2⟩ := small_of sy
    refine ⟨_, pss_one (ps_ret (pe_c CR hr (by rfl) (pa_cons (pe_op op_add (pe_op op_mul (pe_ix ix_tup (pv 0) pe_int (fun _ _ => rfl)) (pe_ix ix_tup (pv 1) pe_int (fun _ _ => rfl))) (pe_op op_mul (pe_ix ix_tup (pv 1) pe_int (fun _ _ => rfl)) (pe_ix ix_tup (pv 0) pe_int (fun _ _ => rfl))))
      (pa_cons (pe_op op_mul (pe_ix ix_tup (pv 0) pe_int (fun _ _ => rfl)) (pe_ix ix_tup (pv 1) pe_int (fun _ _ => rfl))) pa_nil)))), ?_⟩
    refine ⟨.ref ta, rfl, ta, _, 0, .int a, rfl, rfl, hx, atI_nat (j := 0) rfl, .ref tb, rfl, tb, _, 1, .int d, rfl, rfl, hy, atI_nat (j := 1) rfl, a, d, rfl, rfl, .inl ⟨by omega, by omega⟩, ?_⟩
    refine ⟨.ref tb, rfl, tb, _, 0, .int c, rfl, rfl, hy, atI_nat (j := 0) rfl, .ref ta, rfl, ta, _, 1, .int b, rfl, rfl, hx, atI_nat (j := 1) rfl, c, b, rfl, rfl, .inl ⟨by omega, by omega⟩, _, _, rfl, rfl, ?_⟩
    refine ⟨.ref ta, rfl, ta, _, 1, .int b, rfl, rfl, hx, atI_nat (j := 1) rfl, .ref tb, rfl, tb, _, 1, .int d, rfl, rfl, hy, atI_nat (j := 1) rfl, b, d, rfl, rfl, .inl ⟨by omega, by omega⟩, ?_⟩
    obtain ⟨m1, m2⟩ := mul_small b1 b2 d1 d2
    exact ⟨_, _, rfl, m1, m2, q⟩
theorem ok_lawBy (D : Df K mg "_law_by" sLawBy ["_law_one", "_law_other"]) (CR : Cal P w K mg base 1 "_law_ratio" ["_law_top", "_law_bottom"] (spRatio K)) : Cal P w K mg base 2 "_law_by" ["_law_one", "_law_other"] (spBy K) := by
  refine D.ok scLawBy (fun vs H Q E h => ?_) (fun f cdv A outer s H vs Q E hr h => ?_)
  · obtain ⟨a, b, x, y, rfl, _⟩ := h
    rfl
  · obtain ⟨_, _, x, y, rfl, ⟨ta, rfl, hx⟩, ⟨tb, rfl, hy⟩, sx, sy, q⟩ := h
    obtain ⟨a, b, rfl, a1, a2, b1, b2⟩ := small_of sx
    obtain ⟨c, d, rfl, c1, c2, d1, d2⟩ := small_of sy
    refine ⟨_, pss_one (ps_ret (pe_c CR hr (by rfl) (pa_cons (pe_op op_mul (pe_ix ix_tup (pv 0) pe_int (fun _ _ => rfl)) (pe_ix ix_tup (pv 1) pe_int (fun _ _ => rfl)))
      (pa_cons (pe_op op_mul (pe_ix ix_tup (pv 0) pe_int (fun _ _ => rfl)) (pe_ix ix_tup (pv 1) pe_int (fun _ _ => rfl))) pa_nil)))), ?_⟩
    refine ⟨.ref ta, rfl, ta, _, 0, .int a, rfl, rfl, hx, atI_nat (j := 0) rfl, .ref tb, rfl, tb, _, 0, .int c, rfl, rfl, hy, atI_nat (j := 0) rfl, a, c, rfl, rfl, .inl ⟨by omega, by omega⟩, ?_⟩
    refine ⟨.ref ta, rfl, ta, _, 1, .int b, rfl, rfl, hx, atI_nat (j := 1) rfl, .ref tb, rfl, tb, _, 1, .int d, rfl, rfl, hy, atI_nat (j := 1) rfl, b, d, rfl, rfl, .inl ⟨by omega, by omega⟩, ?_⟩
    obtain ⟨m1, m2⟩ := mul_small b1 b2 d1 d2
    exact ⟨_, _, rfl, m1, m2, q⟩
end
/-! ### _law_chain -/
/-- every deputy is a person or nobody -/
theorem good_in : ∀ n ≤ 3, 1 ≤ n → ∀ d ∈ depsM n, ∀ x ∈ d, -1 ≤ x ∧ x < (n : Int) := by decide +kernel
theorem GoodD.in {d : List Int} (g : GoodD d) {x : Int} (h : x ∈ d) : -1 ≤ x ∧ x < (d.length : Int) := good_in _ g.2.1 g.1 d g.2.2 x h
def lchS (d : List Int) (p : Int) : Nat → List Int × Int
  | 0 => ([], p)
  | i + 1 => if (lchS d p i).2 ≠ -1 ∧ (lchS d p i).2 ∉ (lchS d p i).1 then ((lchS d p i).1 ++ [(lchS d p i).2], d.getD (lchS d p i).2.toNat 0) else lchS d p i
theorem lchS_in {d : List Int} (g : GoodD d) {p : Int} (h0 : -1 ≤ p) (h1 : p < d.length) : ∀ i, -1 ≤ (lchS d p i).2 ∧ (lchS d p i).2 < (d.length : Int) ∧ (lchS d p i).1.length ≤ i
  | 0 => ⟨h0, h1, Nat.le_refl _⟩
  | i + 1 => by
    obtain ⟨a, b, c⟩ := lchS_in g h0 h1 i
    unfold lchS
    split
    · rename_i hh
      have hx : d.getD (lchS d p i).2.toNat 0 ∈ d := by
        rw [List.getD_eq_getElem?_getD, List.getElem?_eq_getElem (show (lchS d p i).2.toNat < d.length by omega)]
        exact List.getElem_mem _
      have := g.in hx
      exact ⟨this.1, this.2, by rw [List.length_append, List.length_singleton]; omega⟩
    · exact ⟨a, b, by omega⟩
def lchM (d : List Int) (p : Int) : List Int := (lchS d p d.length).1
def spLawChain (K : PySem.W.Frag) : Sp := fun vs H Q _ => ∃ (t : Addr) (d : List Int) (p : Int), vs = [.ref t, .int p] ∧ SqT K H t (d.map V.int) ∧ GoodD d ∧ 0 ≤ p ∧ p < d.length ∧ ∀ H' l, Ext H H' → H l = none → H' l = some (.lst ((lchM d p).map V.int)) → Q (.ref l) H'
section
variable {P : Program} {w : World} {K : PySem.W.Frag} {mg : Str → Option Value} {base : Heap}
theorem ok_lawChain (B : Bt mg) (D : Df K mg "_law_chain" sLawChain ["_law_deputies_here", "_law_person"]) : Cal P w K mg base 1 "_law_chain" ["_law_deputies_here", "_law_person"] (spLawChain K) := by
  refine D.ok scLawChain (fun vs H Q E h => ?_) (fun f cdv A outer s H vs Q E hr h => ?_)
  · obtain ⟨t, d, p, rfl, _⟩ := h
    rfl
  · obtain ⟨t, d, p, rfl, hT, g, p0, p1, q⟩ := h
    have nd := scLawChain.nd
    have g3 := g.2.1
    refine ⟨_, pss_cons (ps_set (i := 2) nd rfl (.inl rfl) (pe_lst pa_nil))
      (pss_cons (ps_for PassesOwn.never rfl (pi_range1 (by rfl) B.range (pa_cons (pe_callB call_len_seq (by rfl) B.len PySem.boot_len (pa_cons (pv 0) pa_nil)) pa_nil)) (pg_name (i := 3) nd rfl (.inl rfl))
        (pss_one (ps_if (PW.pt (pw_and (pt_cmpR op_ne (pv 1) (pe_un un_neg pe_int) (nomark _)) (pw_and1 (pt_cmpR op_notIn_seq (pv 1) (pv 2) (by rfl)))))
          (pss_cons (ps_expr (pe_bm PySem.F.plainAttrs_list PySem.F.slot_list_append PySem.F.type_list_append mt_append (pv 2) (pa_cons (pv 1) pa_nil)))
          (pss_one (ps_set (i := 1) nd rfl (.inl rfl) (pe_ix ix_tup (pv 0) (pv 1) (fun _ _ => rfl))))) pss_nil)))
      (pss_one (ps_ret (pv 2)))), ?_⟩
    refine ⟨Nat.zero_le _, fun l nl => ?_⟩
    have e0 : Ext H (upd H l (.lst [])) := Ext.new nl
    refine ⟨.ref t, rfl, t, d.map V.int, rfl, .inr (e0.sqt hT), (d.map V.int).length, rfl, by omega, by rw [List.length_map]; omega, ?_⟩
    rw [List.length_map, Int.toNat_natCast]
    refine for_range (lo := 0) (n := d.length) (fun i σ H2 => i ≤ d.length ∧ ∃ o, σ = [some (.ref t), some (.int (lchS d p i).2), some (.ref l), o] ∧ Ext H H2 ∧ H2 l = some (.lst ((lchS d p i).1.map V.int))) ⟨Nat.zero_le _, _, rfl, e0, upd_same⟩ ?_ ?_
    · rintro i σ H2 hi ⟨_, o, rfl, e2, hl⟩
      obtain ⟨b0, b1, b2⟩ := lchS_in g (by omega) p1 i
      have hno : (¬ ((lchS d p i).2 ≠ -1 ∧ (lchS d p i).2 ∉ (lchS d p i).1)) → i + 1 ≤ d.length ∧ ∃ o, [some (V.ref t), some (V.int (lchS d p i).2), some (V.ref l), some (V.int (0 + (i : Int)))] = [some (V.ref t), some (V.int (lchS d p (i + 1)).2), some (V.ref l), o] ∧ Ext H H2 ∧ H2 l = some (.lst ((lchS d p (i + 1)).1.map V.int)) := fun hh => by
        have e : lchS d p (i + 1) = lchS d p i := by
          show (if (lchS d p i).2 ≠ -1 ∧ (lchS d p i).2 ∉ (lchS d p i).1 then _ else _) = _
          rw [if_neg hh]
        rw [e]
        exact ⟨hi, _, rfl, e2, hl⟩
      refine ⟨.int (lchS d p i).2, rfl, 1, rfl, rfl, !decide (V.int (lchS d p i).2 = V.int (-1)), rfl, ?_⟩
      rw [dec_i]
      by_cases h1 : (lchS d p i).2 = -1
      · rw [decide_eq_true h1]
        exact iteF (iteF (hno fun z => z.1 h1))
      · rw [decide_eq_false h1]
        refine iteT ⟨.int (lchS d p i).2, rfl, .ref l, rfl, l, _, rfl, .inl (SqL.of hl), rfl, flat_ints _, !(inV (.int (lchS d p i).2) ((lchS d p i).1.map V.int)), rfl, ?_⟩
        rw [inV_ints]
        by_cases h2 : (lchS d p i).2 ∈ (lchS d p i).1
        · rw [decide_eq_true h2]
          exact iteF (hno fun z => z.2 h2)
        · rw [decide_eq_false h2]
          refine iteT ⟨.ref l, rfl, .inl ⟨rfl, _, SqL.of hl⟩, .int (lchS d p i).2, rfl, l, _, _, rfl, rfl, hl, szl (by rw [List.length_map]; omega), ?_⟩
          obtain ⟨x, hx⟩ : ∃ x, d[(lchS d p i).2.toNat]? = some x := ⟨_, List.getElem?_eq_getElem (by omega)⟩
          have e : lchS d p (i + 1) = ((lchS d p i).1 ++ [(lchS d p i).2], x) := by
            show (if (lchS d p i).2 ≠ -1 ∧ (lchS d p i).2 ∉ (lchS d p i).1 then ((lchS d p i).1 ++ [(lchS d p i).2], d.getD (lchS d p i).2.toNat 0) else _) = _
            rw [if_pos ⟨h1, h2⟩, getD_of hx]
          refine ⟨.ref t, rfl, .int (lchS d p i).2, rfl, t, d.map V.int, (lchS d p i).2, .int x, rfl, rfl, (e2.mut nl).sqt hT, at_of (j := (lchS d p i).2.toNat) (by omega) (map_get hx), ?_⟩
          rw [e]
          refine ⟨hi, _, rfl, e2.mut nl, ?_⟩
          rw [upd_same, List.map_append]
          rfl
    · rintro σ H2 ⟨_, o, rfl, e2, hl⟩
      exact ⟨.ref l, rfl, q H2 l e2 nl hl⟩
end
/-! ### _law_holder -/
def lhGo (d gone : List Int) : Nat → List Int → Int → Int
  | 0, _, _ => -1
  | f + 1, seen, here => if here = -1 ∨ here ∈ seen then -1 else if here ∉ gone then here else lhGo d gone f (seen ++ [here]) (d.getD here.toNat 0)
def lhM (d gone : List Int) (p : Int) : Int := lhGo d gone (d.length + 1) [] p
def spLawHolder (K : PySem.W.Frag) : Sp := fun vs H Q _ => ∃ (t gt : Addr) (d gone : List Int) (p : Int), vs = [.ref t, .ref gt, .int p] ∧ SqT K H t (d.map V.int) ∧ SqT K H gt (gone.map V.int) ∧ GoodD d ∧ 0 ≤ p ∧ p < d.length ∧ ∀ H', Ext H H' → Q (.int (lhM d gone p)) H'
def lholdersM (d gone : List Int) : List Int := (List.range d.length).map fun i : Nat => lhM d gone (i : Int)
def spLawHolders (K : PySem.W.Frag) : Sp := fun vs H Q _ => ∃ (t gt : Addr) (d gone : List Int), vs = [.ref t, .ref gt] ∧ SqT K H t (d.map V.int) ∧ SqT K H gt (gone.map V.int) ∧ GoodD d ∧ ∀ H' l, Ext H H' → H l = none → H' l = some (.lst ((lholdersM d gone).map V.int)) → Q (.ref l) H'
section
variable {P : Program} {w : World} {K : PySem.W.Frag} {mg : Str → Option Value} {base : Heap}
theorem ok_lawHolder (B : Bt mg) (D : Df K mg "_law_holder" sLawHolder ["_law_deputies_here", "_law_gone", "_law_person"]) : Cal P w K mg base 1 "_law_holder" ["_law_deputies_here", "_law_gone", "_law_person"] (spLawHolder K) := by
  refine D.ok scLawHolder (fun vs H Q E h => ?_) (fun f cdv A outer s H vs Q E hr h => ?_)
  · obtain ⟨t, gt, d, gone, p, rfl, _⟩ := h
    rfl
  · obtain ⟨t, gt, d, gone, p, rfl, hT, hG, g, p0, p1, q⟩ := h
    have nd := scLawHolder.nd
    have g3 := g.2.1
    refine ⟨_, pss_cons (ps_par (i := 3) (j := 4) (by rfl) nd rfl rfl (by decide) rfl rfl (pa_cons (pv 2) (pa_cons (pe_lst pa_nil) pa_nil)) (by rfl))
      (pss_cons (ps_for PassesOwn.never rfl (pi_range1 (by rfl) B.range (pa_cons (pe_op op_add (pe_callB call_len_seq (by rfl) B.len PySem.boot_len (pa_cons (pv 0) pa_nil)) pe_int) pa_nil)) (pg_name (i := 5) nd rfl (.inl rfl))
        (pss_cons (ps_if (PW.pt (pw_or (pt_cmpR op_eq (pv 3) (pe_un un_neg pe_int) (nomark _)) (pw_or1 (pt_cmpR op_in_seq (pv 3) (pv 4) (by rfl))))) (pss_one (ps_ret (pe_un un_neg pe_int))) pss_nil)
        (pss_cons (ps_if (pt_cmpR op_notIn_seq (pv 3) (pv 1) (by rfl)) (pss_one (ps_ret (pv 3))) pss_nil)
        (pss_cons (ps_expr (pe_bm PySem.F.plainAttrs_list PySem.F.slot_list_append PySem.F.type_list_append mt_append (pv 4) (pa_cons (pv 3) pa_nil)))
        (pss_one (ps_set (i := 3) nd rfl (.inl rfl) (pe_ix ix_tup (pv 0) (pv 3) (fun _ _ => rfl))))))))
      (pss_one (ps_ret (pe_un un_neg pe_int)))), ?_⟩
    refine ⟨.int p, rfl, Nat.zero_le _, fun l nl => ⟨.int p, .ref l, rfl, ?_⟩⟩
    have e0 : Ext H (upd H l (.lst [])) := Ext.new nl
    refine ⟨.ref t, rfl, t, d.map V.int, rfl, .inr (e0.sqt hT), _, 1, rfl, rfl, ((d.length : Nat) : Int) + 1, by rw [List.length_map], by omega, by omega, ?_⟩
    rw [show (((d.length : Nat) : Int) + 1).toNat = d.length + 1 by omega]
    refine for_range (lo := 0) (n := d.length + 1) (fun i σ H2 => i ≤ d.length + 1 ∧ ∃ here o seen, σ = [some (.ref t), some (.ref gt), some (.int p), some (.int here), some (.ref l), o] ∧ Ext H H2 ∧ H2 l = some (.lst (seen.map V.int)) ∧ seen.length ≤ i ∧ -1 ≤ here ∧ here < d.length ∧ lhGo d gone (d.length + 1 - i) seen here = lhM d gone p)
      ⟨Nat.zero_le _, p, _, [], rfl, e0, upd_same, Nat.le_refl _, by omega, p1, rfl⟩ ?_ ?_
    · rintro i σ H2 hi ⟨_, here, o, seen, rfl, e2, hl, hs, b0, b1, hgo⟩
      rw [show d.length + 1 - i = (d.length + 1 - (i + 1)) + 1 by omega] at hgo
      unfold lhGo at hgo
      have hq := q H2 e2
      refine ⟨.int here, rfl, 1, rfl, rfl, decide (V.int here = V.int (-1)), rfl, ?_⟩
      rw [dec_i]
      by_cases h1 : here = -1
      · rw [if_pos (.inl h1)] at hgo
        rw [decide_eq_true h1]
        rw [← hgo] at hq
        exact iteT (iteT ⟨1, rfl, hq⟩)
      · rw [decide_eq_false h1]
        refine iteF ⟨.int here, rfl, .ref l, rfl, l, _, rfl, .inl (SqL.of hl), rfl, flat_ints _, inV (.int here) (seen.map V.int), rfl, ?_⟩
        rw [inV_ints]
        by_cases h2 : here ∈ seen
        · rw [if_pos (.inr h2)] at hgo
          rw [decide_eq_true h2]
          rw [← hgo] at hq
          exact iteT ⟨1, rfl, hq⟩
        · rw [if_neg (fun z => z.elim h1 h2)] at hgo
          rw [decide_eq_false h2]
          refine iteF ⟨.int here, rfl, .ref gt, rfl, gt, _, rfl, .inr (e2.sqt hG), rfl, flat_ints _, !(inV (.int here) (gone.map V.int)), rfl, ?_⟩
          rw [inV_ints]
          by_cases h3 : here ∈ gone
          · rw [if_neg (fun z => z h3)] at hgo
            rw [decide_eq_true h3]
            obtain ⟨x, hx⟩ : ∃ x, d[here.toNat]? = some x := ⟨_, List.getElem?_eq_getElem (by omega)⟩
            rw [getD_of hx] at hgo
            have hin := g.in (List.mem_of_getElem? hx)
            refine iteF ⟨.ref l, rfl, .inl ⟨rfl, _, SqL.of hl⟩, .int here, rfl, l, _, _, rfl, rfl, hl, szl (by rw [List.length_map]; omega), ?_⟩
            refine ⟨.ref t, rfl, .int here, rfl, t, d.map V.int, here, .int x, rfl, rfl, (e2.mut nl).sqt hT, at_of (j := here.toNat) (by omega) (map_get hx), ?_⟩
            refine ⟨hi, x, _, seen ++ [here], rfl, e2.mut nl, ?_, ?_, hin.1, hin.2, hgo⟩
            · rw [upd_same, List.map_append]
              rfl
            · rw [List.length_append, List.length_singleton]
              omega
          · rw [if_pos h3] at hgo
            rw [decide_eq_false h3]
            rw [← hgo] at hq
            exact iteT ⟨.int here, rfl, hq⟩
    · rintro σ H2 ⟨_, here, o, seen, rfl, e2, hl, hs, b0, b1, hgo⟩
      rw [Nat.sub_self] at hgo
      unfold lhGo at hgo
      have hq := q H2 e2
      rw [← hgo] at hq
      exact ⟨1, rfl, hq⟩
theorem ok_lawHolders (B : Bt mg) (D : Df K mg "_law_holders" sLawHolders ["_law_deputies_here", "_law_gone"]) (CH : Cal P w K mg base 1 "_law_holder" ["_law_deputies_here", "_law_gone", "_law_person"] (spLawHolder K)) : Cal P w K mg base 2 "_law_holders" ["_law_deputies_here", "_law_gone"] (spLawHolders K) := by
  refine D.ok scLawHolders (fun vs H Q E h => ?_) (fun f cdv A outer s H vs Q E hr h => ?_)
  · obtain ⟨t, gt, d, gone, rfl, _⟩ := h
    rfl
  · obtain ⟨t, gt, d, gone, rfl, hT, hG, g, q⟩ := h
    have hl6 := g.2.1
    refine ⟨_, pss_one (ps_ret (pe_lc (own := [("_law_k", 2)]) (g := gName 2) (tt := tYes) (by rfl) scLawHolders.nd (pi_range1 (by rfl) B.range (pa_cons (pe_callB call_len_seq (by rfl) B.len PySem.boot_len (pa_cons (pv 0) pa_nil)) pa_nil))
      (blkOk_by (N := ["_law_deputies_here", "_law_gone", "_law_k"]) (sc := defScope sLawHolders) (by decide +kernel)) (fun _ _ _ _ _ => pg_name (i := 2) scLawHolders.nd rfl (Or.inl rfl)) (fun _ _ _ _ _ => pts_nil)
      (fun _ _ _ _ _ => pe_c CH hr (by rfl) (pa_cons (pv 0) (pa_cons (pv 1) (pa_cons (pv 2) pa_nil)))))), ?_⟩
    refine ⟨.ref t, rfl, t, d.map V.int, rfl, .inr hT, (d.map V.int).length, rfl, by omega, by rw [List.length_map]; omega, fun l nl => ?_⟩
    rw [List.length_map, Int.toNat_natCast]
    refine lc_rng (lo := 0) (j := 2) yes (RI fun i : Nat => lhM d gone (i : Int)) (RI.mono _) ?_ nl ?_ ?_ ?_ ?_
    · omega
    · exact fun _ => rfl
    · exact fun i H' hi e Q2 h2 => h2 H' (Ext.refl H')
    · intro i H' hi e _ _ Q2 h2
      refine ⟨.ref t, rfl, .ref gt, rfl, .int (0 + (i : Int)), rfl, t, gt, d, gone, (i : Int), ?_, e.sqt hT, e.sqt hG, g, by omega, by omega, fun H4 e4 => h2 _ H4 e4 rfl⟩
      rw [Int.zero_add]
    · intro H' ys e hys hp
      have ey := paired_RI (H := fun k y => hid l H') hp
      rw [filter_yes] at ey
      subst ey
      exact q H' l e nl hys
end
/-! ### _law_alike: equal values -/
def spAlike0 : Sp := fun vs H Q _ => ∃ v : V, vs = [v, v] ∧ ((∃ i, v = .int i) ∨ ∃ b, v = .bl b) ∧ ∀ H', Ext H H' → Q (.bl true) H'
def spAlike (K : PySem.W.Frag) : Sp := fun vs H Q _ => ∃ (v u : V) (x : List Int), vs = [v, u] ∧ TI K H v x ∧ TI K H u x ∧ x.length ≤ 100 ∧ ∀ H', Ext H H' → Q (.bl true) H'
section
variable {P : Program} {w : World} {K : PySem.W.Frag} {mg : Str → Option Value} {base : Heap}
theorem kitAny2 {a b c : String} {r1 r2 : Bool} (h1 : kitB a b = some r1) (h2 : kitB a c = some r2) : PySem.W.kitAny K (.type a) [.type b, .type c] = some (r1 || r2) := by
  refine kitAny_cons (b := r1) (kit_ty h1) (fun e => ?_) (fun e => by rw [e]; rfl)
  rw [e]
  refine kitAny_cons (b := r2) (kit_ty h2) (fun e => ?_) (fun e => by rw [e]; rfl)
  rw [e]
  exact kitAny_nil
theorem ok_alike0 (B : Bt mg) (D : Df K mg "_law_alike" sLawAlike ["_law_found", "_law_due"]) : Cal P w K mg base 1 "_law_alike" ["_law_found", "_law_due"] spAlike0 := by
  refine D.ok scLawAlike (fun vs H Q E h => ?_) (fun f cdv A outer s H vs Q E hr h => ?_)
  · obtain ⟨v, rfl, _⟩ := h
    rfl
  · obtain ⟨v, rfl, hv, q⟩ := h
    refine ⟨_, pss_cons (ps_if (pt_val (pe_callB call_isiT (by rfl) B.isinstance PyProof.Rows.boot_isinstance (pa_cons (pv 1) (pa_cons (pe_tup (pa_cons (pe_bltn (v := .ty "tuple") (by rfl) B.tuple boot_tuple rfl) (pa_cons (pe_bltn (v := .ty "list") (by rfl) B.list boot_list rfl) pa_nil))) pa_nil))))
        (pss_cons ps_never (pss_cons ps_never (pss_one ps_never))) pss_nil)
      (pss_cons (ps_if (PW.pt (pw_or (pt_cmp (pc_isN (pv 1)) rfl) (pw_or1 (pt_val (pe_callB call_isi (by rfl) B.isinstance PyProof.Rows.boot_isinstance (pa_cons (pv 1) (pa_cons (pe_bltn (v := .ty "str") (by rfl) B.str boot_str rfl) pa_nil)))))))
        (pss_one ps_never) pss_nil)
      (pss_one (ps_ret (pe_and (pe_callB call_isi (by rfl) B.isinstance PyProof.Rows.boot_isinstance (pa_cons (pv 0) (pa_cons (pe_bltn (v := .ty "int") (by rfl) B.int boot_int rfl) pa_nil)))
        (pe_and (pe_cmpR op_eq (pe_callB call_isi (by rfl) B.isinstance PyProof.Rows.boot_isinstance (pa_cons (pv 0) (pa_cons (pe_bltn (v := .ty "bool") (by rfl) B.bool boot_bool rfl) pa_nil)))
          (pe_callB call_isi (by rfl) B.isinstance PyProof.Rows.boot_isinstance (pa_cons (pv 1) (pa_cons (pe_bltn (v := .ty "bool") (by rfl) B.bool boot_bool rfl) pa_nil))) (nomark _))
        (pe_one (pe_cmpR op_eq (pv 0) (pv 1) (nomark _)))))))), ?_⟩
    rcases hv with ⟨i, rfl⟩ | ⟨b, rfl⟩
    · refine ⟨.int i, rfl, by show 2 ≤ sizeLine; decide, fun T nT => ?_⟩
      have q2 := q _ (Ext.new (o := .tup [.ty "tuple", .ty "list"]) nT)
      refine ⟨.int i, T, [.ty "tuple", .ty "list"], .type "int", [.type "tuple", .type "list"], false, rfl, upd_same, .cons (.ty _) (.cons (.ty _) .nil), .base (.int i), kitAny2 (r1 := false) (r2 := false) (by decide +kernel) (by decide +kernel), false, rfl, iteF ?_⟩
      refine ⟨.int i, rfl, false, rfl, iteF ⟨.int i, rfl, .int i, .ty "str", .type "int", .type "str", false, rfl, .ty _, .base (.int i), kit_ty (by decide +kernel), false, rfl, iteF ?_⟩⟩
      refine ⟨.int i, rfl, .int i, .ty "int", .type "int", .type "int", true, rfl, .ty _, .base (.int i), kit_ty (by decide +kernel), true, rfl, iteT ?_⟩
      refine ⟨.int i, rfl, .int i, .ty "bool", .type "int", .type "bool", false, rfl, .ty _, .base (.int i), kit_ty (by decide +kernel), .int i, rfl, .int i, .ty "bool", .type "int", .type "bool", false, rfl, .ty _, .base (.int i), kit_ty (by decide +kernel), rfl, true, rfl, iteT ?_⟩
      refine ⟨.int i, rfl, .int i, rfl, rfl, ?_⟩
      rw [decide_eq_true rfl]
      exact q2
    · refine ⟨.bl b, rfl, by show 2 ≤ sizeLine; decide, fun T nT => ?_⟩
      have q2 := q _ (Ext.new (o := .tup [.ty "tuple", .ty "list"]) nT)
      refine ⟨.bl b, T, [.ty "tuple", .ty "list"], .type "bool", [.type "tuple", .type "list"], false, rfl, upd_same, .cons (.ty _) (.cons (.ty _) .nil), .base (.bl b), kitAny2 (r1 := false) (r2 := false) (by decide +kernel) (by decide +kernel), false, rfl, iteF ?_⟩
      refine ⟨.bl b, rfl, false, rfl, iteF ⟨.bl b, rfl, .bl b, .ty "str", .type "bool", .type "str", false, rfl, .ty _, .base (.bl b), kit_ty (by decide +kernel), false, rfl, iteF ?_⟩⟩
      refine ⟨.bl b, rfl, .bl b, .ty "int", .type "bool", .type "int", true, rfl, .ty _, .base (.bl b), kit_ty (by decide +kernel), true, rfl, iteT ?_⟩
      refine ⟨.bl b, rfl, .bl b, .ty "bool", .type "bool", .type "bool", true, rfl, .ty _, .base (.bl b), kit_ty (by decide +kernel), .bl b, rfl, .bl b, .ty "bool", .type "bool", .type "bool", true, rfl, .ty _, .base (.bl b), kit_ty (by decide +kernel), rfl, true, rfl, iteT ?_⟩
      refine ⟨.bl b, rfl, .bl b, rfl, rfl, ?_⟩
      rw [decide_eq_true rfl]
      exact q2
theorem ok_alike (B : Bt mg) (D : Df K mg "_law_alike" sLawAlike ["_law_found", "_law_due"]) (C0 : Cal P w K mg base 1 "_law_alike" ["_law_found", "_law_due"] spAlike0) : Cal P w K mg base 2 "_law_alike" ["_law_found", "_law_due"] (spAlike K) := by
  refine D.ok scLawAlike (fun vs H Q E h => ?_) (fun f cdv A outer s H vs Q E hr h => ?_)
  · obtain ⟨v, u, x, rfl, _⟩ := h
    rfl
  · obtain ⟨_, _, x, rfl, ⟨ta, rfl, ha⟩, ⟨tb, rfl, hb⟩, hx, q⟩ := h
    refine ⟨_, pss_cons (ps_if (pt_val (pe_callB call_isiT (by rfl) B.isinstance PyProof.Rows.boot_isinstance (pa_cons (pv 1) (pa_cons (pe_tup (pa_cons (pe_bltn (v := .ty "tuple") (by rfl) B.tuple boot_tuple rfl) (pa_cons (pe_bltn (v := .ty "list") (by rfl) B.list boot_list rfl) pa_nil))) pa_nil))))
        (pss_cons (ps_if (PW.pt (pw_or (pt_not (pt_val (pe_callB call_isiT (by rfl) B.isinstance PyProof.Rows.boot_isinstance (pa_cons (pv 0) (pa_cons (pe_tup (pa_cons (pe_bltn (v := .ty "tuple") (by rfl) B.tuple boot_tuple rfl) (pa_cons (pe_bltn (v := .ty "list") (by rfl) B.list boot_list rfl) pa_nil))) pa_nil)))))
            (pw_or1 (pt_cmpR op_ne (pe_callB call_isi (by rfl) B.isinstance PyProof.Rows.boot_isinstance (pa_cons (pv 0) (pa_cons (pe_bltn (v := .ty "list") (by rfl) B.list boot_list rfl) pa_nil)))
              (pe_callB call_isi (by rfl) B.isinstance PyProof.Rows.boot_isinstance (pa_cons (pv 1) (pa_cons (pe_bltn (v := .ty "list") (by rfl) B.list boot_list rfl) pa_nil))) (nomark _))))) (pss_one (ps_ret pe_bl)) pss_nil)
        (pss_cons (ps_if (pt_cmpR op_ne (pe_callB call_len_seq (by rfl) B.len PySem.boot_len (pa_cons (pv 0) pa_nil)) (pe_callB call_len_seq (by rfl) B.len PySem.boot_len (pa_cons (pv 1) pa_nil)) (nomark _)) (pss_one (ps_ret pe_bl)) pss_nil)
        (pss_one (ps_ret (pe_cmpR (op_eqD hr.units) (pe_lc (own := [("_law_k", 2)]) (g := gName 2) (by rfl) scLawAlike.nd (pi_range1 (by rfl) B.range (pa_cons (pe_callB call_len_seq (by rfl) B.len PySem.boot_len (pa_cons (pv 1) pa_nil)) pa_nil))
          (blkOk_by (N := ["_law_found", "_law_due", "_law_k"]) (sc := defScope sLawAlike) (by decide +kernel)) (fun _ _ _ _ _ => pg_name (i := 2) scLawAlike.nd rfl (Or.inl rfl))
          (fun _ _ _ _ _ => pts_one (pt_not (pt_val (pe_c C0 hr (by rfl) (pa_cons (pe_ix (ix_tupK K) (pv 0) (pv 2) (fun _ _ => rfl)) (pa_cons (pe_ix (ix_tupK K) (pv 1) (pv 2) (fun _ _ => rfl)) pa_nil))))))
          (fun _ _ _ _ _ => pv 2)) (pe_lst pa_nil) (nomark _)))))) pss_nil)
      (pss_cons ps_never (pss_one ps_never)), ?_⟩
    refine ⟨.ref tb, rfl, by show 2 ≤ sizeLine; decide, fun T nT => ?_⟩
    have e1 := Ext.new (o := .tup [.ty "tuple", .ty "list"]) nT
    refine ⟨.ref tb, T, [.ty "tuple", .ty "list"], .type "tuple", [.type "tuple", .type "list"], true, rfl, upd_same, .cons (.ty _) (.cons (.ty _) .nil), tyx_tup (e1.sqt hb), kitAny2 (r1 := true) (r2 := false) (by decide +kernel) (by decide +kernel), true, rfl, iteT ?_⟩
    refine ⟨.ref ta, rfl, by show 2 ≤ sizeLine; decide, fun T2 nT2 => ?_⟩
    have e2 := e1.trans (Ext.new (o := .tup [.ty "tuple", .ty "list"]) nT2)
    refine ⟨.ref ta, T2, [.ty "tuple", .ty "list"], .type "tuple", [.type "tuple", .type "list"], true, rfl, upd_same, .cons (.ty _) (.cons (.ty _) .nil), tyx_tup (e2.sqt ha), kitAny2 (r1 := true) (r2 := false) (by decide +kernel) (by decide +kernel), true, rfl, iteF ?_⟩
    refine ⟨.ref ta, rfl, .ref ta, .ty "list", .type "tuple", .type "list", false, rfl, .ty _, tyx_tup (e2.sqt ha), kit_ty (by decide +kernel), .ref tb, rfl, .ref tb, .ty "list", .type "tuple", .type "list", false, rfl, .ty _, tyx_tup (e2.sqt hb), kit_ty (by decide +kernel), rfl, false, rfl, iteF ?_⟩
    refine ⟨.ref ta, rfl, ta, _, rfl, .inr (e2.sqt ha), .ref tb, rfl, tb, _, rfl, .inr (e2.sqt hb), rfl, false, ?_, iteF ?_⟩
    · rw [decide_eq_true rfl]
      rfl
    refine ⟨.ref tb, rfl, tb, _, rfl, .inr (e2.sqt hb), _, rfl, by omega, by rw [List.length_map]; omega, fun D nD => ?_⟩
    rw [List.length_map, Int.toNat_natCast]
    refine lc_rng (lo := 0) (j := 2) (fun _ => false) (RI fun i : Nat => (i : Int)) (RI.mono _) ?_ nD ?_ ?_ ?_ ?_
    · omega
    · exact fun _ => rfl
    · intro i H' hi e Q2 h2
      obtain ⟨z, hz⟩ : ∃ z, x[i]? = some z := ⟨_, List.getElem?_eq_getElem hi⟩
      have ei : (0 : Int) + (i : Int) = ((i : Nat) : Int) := Int.zero_add _
      refine ⟨.ref ta, rfl, .int (0 + (i : Int)), rfl, ta, _, _, .int z, rfl, rfl, e.sqt (e2.sqt ha), at_of ei (map_get hz), .ref tb, rfl, .int (0 + (i : Int)), rfl, tb, _, _, .int z, rfl, rfl, e.sqt (e2.sqt hb), at_of ei (map_get hz), .int z, rfl, .inl ⟨z, rfl⟩, fun H4 e4 => ⟨true, rfl, h2 H4 e4⟩⟩
    · intro i H' hi e _ hf Q2 h2
      cases hf
    · intro H' ys e hys hp
      have ef : (List.range x.length).filter (fun _ => false) = [] := List.filter_eq_nil_iff.mpr (fun _ _ => by decide)
      rw [ef] at hp
      cases hp
      refine ⟨Nat.zero_le _, fun L nL => ?_⟩
      have e3 : Ext H' (upd H' L (.lst [])) := Ext.new nL
      refine ⟨.list [], .list [], .lst (SqL.of (e3.lst hys)) .nil, .lst (SqL.of upd_same) .nil, by decide, by decide, ?_⟩
      have : PyData.eqv (.list []) (.list []) = true := by simp [PyData.eqv, PyData.eqvAll]
      rw [this]
      exact q _ ((e2.trans e).trans e3)
end
end Ft
namespace Ft
open PySem PySem.Spec PyProof.Rows L2
/-! ### a generator expression: its code, what is kept behind it -/
section
variable {X : Cx} {pins : List (Addr × Obj)} {σ : L2.St}
theorem gx_code {H1 : Hp} {s1 : Shared} {c P : Addr} {ps : Array Value} {gpos : Pos} {qn : Str} {scope : Scope} (TB : GxR.TabB X.base X.mg c P) (hcode : X.env.code = .ref c) (I1 : Inv X pins σ H1 s1) (hP : H1 P = some (.tbl ps)) (ht : TriplesOk ps.toList)
    {h2 : Heap} {tk2 : Nat} (hk2 : ∀ b o, s1.heap.get? b = some o → h2.get? b = some o) (lim2 : h2.NoLimit) {Kk : Value → Addr → Shared → Prop}
    (cont : ∀ (code : Value) (h3 : Heap) (tk : Nat) (ps' more : Array Value), Heap.ExtBut P h2 h3 → h2.objs.size ≤ h3.objs.size → h3.get? P = some { cls := .none, data := .fields ps' } → ps' = ps ++ more → TriplesOk ps'.toList → h3.NoLimit →
      Kk code builtinsNs { s1 with heap := h3, toks := tk }) :
    wpAny (model X.prog X.w) X.A (genexprCode X.env gpos qn scope) (fun code s₃ => wpAny (model X.prog X.w) X.A (builtinsFor X.env.globals X.env.builtins) (fun bi s₄ => Kk code bi s₄) X.xe s₃) X.xe { s1 with heap := h2, toks := tk2 } := by
  have hPs : s1.heap.get? P = some { cls := .none, data := .fields ps } := I1.hok P _ hP
  have hP2 : h2.get? P = some { cls := .none, data := .fields ps } := hk2 _ _ hPs
  have cd : PySem.W.CodeHd h2 c P := TB.code.keeps fun b u e => hk2 _ _ (I1.bk b u e)
  have hcP : cStatics ≠ P := fun e => by
    obtain ⟨_, hns, _⟩ := I1.nolimit
    obtain ⟨o', es, ep, ho, hd, _⟩ := hns
    rw [e, hPs] at ho
    cases ho
    cases hd
  have fin : ∀ (code : Value) (h3 : Heap) (tk : Nat) (ps' more : Array Value), Heap.ExtBut P h2 h3 → h2.objs.size ≤ h3.objs.size → h3.get? P = some { cls := .none, data := .fields ps' } → ps' = ps ++ more → TriplesOk ps'.toList →
      wpAny (model X.prog X.w) X.A (builtinsFor X.env.globals X.env.builtins) (fun bi s₄ => Kk code bi s₄) X.xe { s1 with heap := h3, toks := tk } := by
    intro code h3 tk ps' more hx hsz hP3 em ht3
    obtain ⟨bm, ob, e1, e2, e3, e4, e5, e6, e7, e8⟩ := TB.bm
    have keep3 : ∀ b u, b ≠ P → s1.heap.get? b = some u → h3.get? b = some u := fun b u hb e => hx b u hb (hk2 _ _ e)
    refine wpAny_builtinsFor (m := X.mg) (by rw [I1.ok.glob]; exact ((I1.mod.glob.keeps I1.bk).keeps hk2).extBut hx TB.gP) e1 e2 (keep3 _ _ e4 (I1.bk _ _ e5)) e6 e7 e8 ?_
    exact cont code h3 tk ps' more hx hsz hP3 em ht3 (lim2.extBut hx hcP)
  cases hf : codeAmong gpos ps.toList with
  | none =>
    refine wpAny_genexprCodeX hcode (cd.code hP2 ht) (cd.tab hP2) hf fun c' h' tk hx hge hlt hco' _ htab' _ => ?_
    obtain ⟨o1, vs, f1, tf, fl, tg, inF, tx, tt, op, _, _, _, _, _, _, _, _, _, htr, _⟩ := hco'
    exact fin _ h' tk _ _ hx (Nat.le_trans hge (Nat.le_of_lt hlt)) htab'.2 rfl htr
  | some cv =>
    refine wpAny_genexprCode_hit hcode (cd.code hP2 ht) hf ?_
    exact fin cv h2 tk2 ps #[] (Heap.ExtBut.refl _ _) (Nat.le_refl _) hP2 (by simp) ht
theorem gx_inv {H1 : Hp} {s1 s' : Shared} {P : Addr} {ps ps' more : Array Value} {h3 h5 : Heap} {tk5 : Nat} {wr : List Addr} {gs : GenState} (I1 : Inv X pins σ H1 s1) (hP : H1 P = some (.tbl ps)) (em : ps' = ps ++ more) (ht3 : TriplesOk ps'.toList)
    (hP3 : h3.get? P = some { cls := .none, data := .fields ps' }) (keep3 : ∀ b u, b ≠ P → s1.heap.get? b = some u → h3.get? b = some u) (hk5 : ∀ b o, h3.get? b = some o → h5.get? b = some o)
    (hgb : gs.bare = true) (nwr : ∀ b ∈ wr, s1.heap.objs.size ≤ b) (hm : Moved wr (GenOnlyQ s1.gens.size) { s1 with gens := s1.gens.push gs, toks := tk5, heap := h5 } s') : ∃ H2, GxR.Tabbed P H1 H2 ∧ Inv X pins σ H2 s' := by
  subst em
  have hPs : s1.heap.get? P = some { cls := .none, data := .fields ps } := I1.hok P _ hP
  have nw : ∀ b u, s1.heap.get? b = some u → b ∉ wr := fun b u e hb => by
    have hl := Heap.lt_size e
    exact Nat.lt_irrefl _ (Nat.lt_of_lt_of_le hl (nwr b hb))
  have J := GxR.inv_tab (more := more) (h' := s'.heap) (g' := s'.gens) (d' := s'.drawn) (t' := s'.toks) I1 hP (fun b u hb e => hm.heap b u (nw b u e) (hk5 b u (keep3 b u hb e)))
    (hm.heap P _ (nw P _ hPs) (hk5 P _ hP3)) (AllBare.movedS (I1.bare.push hgb) hm)
  rw [GxR.sh_eta s1 s' hm.os] at J
  exact ⟨upd H1 P (.tbl (ps ++ more)), ⟨⟨ps ++ more, upd_same, ht3⟩, fun b hb => upd_ne hb⟩, J⟩
end
/-! ### sum of a generator expression over a list of ints -/
/-- the element: of an int i with Pz the int f i -/
def EltI (prog : Program) (w : World) (scope : Scope) (x : Str) (elt : Expr) (Pz : Int → Prop) (f : Int → Int) : Prop :=
  ∀ (cenv : Env) (A' : Around) (E' : Value → Shared → Prop) (a : Int) (t : Tok) (s₂ : Shared) (m₂ : Str → Option Value), cenv.scope = scope → Pz a → s₂.heap.Ns cenv.locals m₂ → m₂ x = some (.int a t) →
    wpAny (model prog w) A' (eval elt cenv) (fun y s₃ => (∃ t', y = .int (f a) t') ∧ Keeps s₂ s₃) E' s₂
/-- x * x -/
theorem elt_sq {prog : Program} {w : World} {scope : Scope} {x : Str} {p1 p2 p3 : Pos} (hk : scope.kind = .function) (hl : scope.names.lookup x = some .local) (hd : (x == ("__debug__" : Str)) = false := by decide) :
    EltI prog w scope x (.BinOp (.Name x p1) .Mult (.Name x p2) p3) (fun i => CMul i i) (fun i => i * i) := by
  intro cenv A' E' a t s₂ m₂ hs hp hn hm
  have hk' : cenv.scope.kind = .function := by rw [hs]; exact hk
  have hl' : cenv.scope.names.lookup x = some .local := by rw [hs]; exact hl
  refine wpAny_BinOp ?_
  refine wpAny_Name (wpAny_loadName_local hk' hl' hn hm ?_) hd
  refine wpAny_Name (wpAny_loadName_local hk' hl' hn hm ?_) hd
  exact PyProof.Rows.mul_int ⟨⟨_, rfl⟩, GxR.keeps_tok _ _⟩ hp.ok
section
variable {X : Cx} {pins : List (Addr × Obj)} {σ : L2.St} {H : Hp} {s : Shared}
def ReadyI (X : Cx) (pins : List (Addr × Obj)) (σ : L2.St) (H1 : Hp) (P : Addr) (ws : List Int) (f : Int → Int) (g : Addr) (s5 : Shared) : Prop :=
  ∃ (fp wr : List Addr) (G : Array GenState → Array GenState → Prop) (F : Nat → Value → Prop) (St : Nat → Shared → Prop),
    WalksS X.prog X.w X.A.in1 g fp wr G ws.length F St ∧ St 0 s5 ∧ (∀ b ∈ fp, b < s5.heap.objs.size) ∧
    (∀ j v, F j v → ∃ (a : Int) (t : Tok), ws[j]? = some a ∧ v = .int (f a) t) ∧
    ∀ s', Moved wr G s5 s' → ∃ H2, GxR.Tabbed P H1 H2 ∧ Inv X pins σ H2 s'
theorem gen_ints {c P : Addr} {elt iter : Expr} {x : Str} {px gpos : Pos} {scope : Scope} {Pz : Int → Prop} {f : Int → Int} {te : TE} {k : Nat} {Q' : Value → Shared → Prop} {R : List Int → Hp → Prop}
    (hr : Room k X.A) (TB : GxR.TabB X.base X.mg c P) (hcode : X.env.code = .ref c) (S : GxR.GenS X.env scope x) (hi : PE X iter te) (hel : EltI X.prog X.w scope x elt Pz f)
    (hs : ∀ v, genFold iter X.env v = pure v) (I : Inv X pins σ H s) (h : te σ H fun v H1 => ∃ (yl : Addr) (ws : List Int), v = .ref yl ∧ SqL X.K H1 yl (ws.map V.int) ∧ (∀ a ∈ ws, Pz a) ∧ GxR.TabG H1 P ∧ R ws H1)
    (hQ : ∀ ws H1 g s5, R ws H1 → ReadyI X pins σ H1 P ws f g s5 → Q' (.ref g) s5) :
    wpAny (model X.prog X.w) X.A (eval (.GeneratorExp elt [⟨.Name x px, iter, [], 0⟩] scope gpos) X.env) Q' X.xe s := by
  refine wpAny_GeneratorExp_walksQ hr.hd S.co (closure_ok S.free) S.cell S.dot S.loc S.kind (by have := hr.dp; omega) ?_ hs
  refine thn (hi.run pins s σ H _ I h) fun xv s1 ⟨v, H1, I1, r1, q1⟩ => ?_
  obtain ⟨yl, ws, rfl, hyl, hPz, ⟨ps, hP, ht⟩, q1⟩ := q1
  obtain rfl : xv = Value.ref yl := r1
  obtain ⟨its, rv, hl, hz⟩ := I1.list hyl
  have hIL := hl.isList
  have hlen : its.length = ws.length := by rw [← rv.length, List.length_map]
  have hat : ∀ (i : Nat) (v : Value), its.toArray[i]? = some v → ∃ (a : Int) (u : Tok), ws[i]? = some a ∧ v = .int a u := fun i v hv => by
    have hv2 : its[i]? = some v := by simpa using hv
    have hi2 : i < its.length := (List.getElem?_eq_some_iff.mp hv2).1
    obtain ⟨a, ha⟩ : ∃ a, ws[i]? = some a := ⟨ws[i]'(by omega), List.getElem?_eq_getElem _⟩
    have hb : (ws.map V.int)[i]? = some (V.int a) := by rw [List.getElem?_map, ha] <;> rfl
    obtain ⟨u, hu, ru⟩ := rv.get hb
    rw [hv2] at hu
    cases hu
    obtain ⟨t, e⟩ := (show ∃ t, v = Value.int a t from ru)
    exact ⟨a, t, ha, e⟩
  have hylt : yl < s1.heap.objs.size := by
    obtain ⟨_, e, _⟩ := _root_.id hIL
    exact Heap.lt_size e
  have hPs : s1.heap.get? P = some { cls := .none, data := .fields ps } := I1.hok P _ hP
  have hPlt : P < s1.heap.objs.size := Heap.lt_size hPs
  have hcl : cStatics < s1.heap.objs.size := let ⟨_, hns, _⟩ := I1.nolimit; hns.lt
  have hylP : yl ≠ P := fun z => by
    obtain ⟨_, e, hc1, _, hd1⟩ := _root_.id hIL
    rw [z, hPs] at e
    cases e
    cases hd1
  refine wpAny_pyIter_list hIL ?_
  generalize ho : ({ cls := .type "list_iterator", data := .fields #[.ref yl, .int 0 0] } : Obj) = o
  have hitr : (s1.heap.push o).IsListIter s1.heap.objs.size yl 0 := by
    subst ho
    exact ⟨_, Heap.get?_push_size _ rfl, rfl, rfl⟩
  have lim2 : (s1.heap.push o).NoLimit := I1.nolimit.push o
  refine ⟨lim2, gx_code (h2 := s1.heap.push o) (tk2 := s1.toks) TB hcode I1 hP ht (fun b u e => Heap.get?_push_of_some _ e) lim2 fun code h3 tk ps' more hx hsz hP3 em ht3 lim3 => ?_⟩
  have sz2 : (s1.heap.push o).objs.size = s1.heap.objs.size + 1 := Heap.size_push ..
  have keep3 : ∀ b u, b ≠ P → s1.heap.get? b = some u → h3.get? b = some u := fun b u hb e => hx b u hb (Heap.get?_push_of_some _ e)
  have hIL3 : h3.IsList yl its.toArray := by
    obtain ⟨ob, e, r⟩ := _root_.id hIL
    exact ⟨ob, keep3 _ _ hylP e, r⟩
  have hItr3 : h3.IsListIter s1.heap.objs.size yl 0 := hitr.at fun u e => hx _ u (Nat.ne_of_gt hPlt) e
  refine ⟨s1.heap.objs.size, [s1.heap.objs.size, yl], [s1.heap.objs.size], its.toArray.size, (fun i v => its.toArray[i]? = some v), (fun i h => h.IsListIter s1.heap.objs.size yl i ∧ h.IsList yl its.toArray), (fun _ => true),
    (fun i y => ∃ (a : Int) (t : Tok), ws[i]? = some a ∧ y = .int (f a) t), rfl, (fun A' hA => Walks.list hA _ _ (Nat.ne_of_lt hylt) _), ⟨hItr3, hIL3⟩, ?_, lim3, ?_, ?_, ?_⟩
  · intro b hb
    show b < h3.objs.size
    rcases List.mem_cons.mp hb with z | z
    · rw [z]
      have e9 : s1.heap.objs.size + 1 ≤ h3.objs.size := by omega
      exact e9
    · rcases List.mem_cons.mp z with z | z
      · rw [z]
        have e9 : s1.heap.objs.size ≤ h3.objs.size := by omega
        exact Nat.lt_of_lt_of_le hylt e9
      · cases z
  · intro z
    rcases List.mem_cons.mp z with z | z
    · exact Nat.ne_of_lt hcl z
    · cases z
  · intro href hhref
    refine ⟨fun A' E' i v s₂ m₂ hA hPv hn hm hk => ?_, fun A' E' i v s₂ m₂ hA hPv hp hn hm hk => ?_⟩
    · simp only [List.forIn_nil]
      exact wpAny_pure ⟨rfl, GxR.keeps_refl _⟩
    · obtain ⟨a, u, ha, rfl⟩ := hat i v hPv
      refine wpAny_mono (hel _ A' E' a u s₂ m₂ rfl (hPz a (List.mem_of_getElem? ha)) hn hm) (fun y s3 r => ?_) fun _ _ e => e
      obtain ⟨⟨t, e⟩, kp⟩ := r
      exact ⟨⟨a, t, ha, e⟩, kp⟩
  · intro g h5 tk5 gs hgb hag hsz5 hk5 W5 hgat
    simp only [GxR.passing_true, List.length_range] at W5
    have hn5 : its.toArray.size = ws.length := by rw [List.size_toArray, hlen]
    rw [hn5] at W5 hgat
    refine hQ ws H1 g _ q1 ⟨_, _, _, _, _, W5.in4_1, hgat, ?_, ?_, fun s' hm => ?_⟩
    · intro b hb
      show b < h5.objs.size
      have e5 : h5.objs.size = g + 1 := hsz5
      have h8 : h3.objs.size < g := hag
      rw [e5]
      rcases List.mem_cons.mp hb with z | z
      · rw [z]
        exact Nat.lt_succ_self g
      · rcases List.mem_cons.mp z with z | z
        · rw [z]
          exact Nat.lt_succ_of_lt h8
        · have z2 := List.mem_range.mp z
          have h7 : b < h3.objs.size := z2
          exact Nat.lt_succ_of_lt (Nat.lt_trans h7 h8)
    · intro j v hv
      obtain ⟨i, hij, a, t, ha, e⟩ := hv
      obtain ⟨hj, ej⟩ := List.getElem?_eq_some_iff.mp hij
      rw [List.getElem_range] at ej
      subst ej
      exact ⟨a, t, ha, e⟩
    · refine gx_inv I1 hP em ht3 hP3 keep3 hk5 hgb ?_ hm
      intro b hb
      rcases List.mem_cons.mp hb with z | z
      · rw [z]
        have e9 : s1.heap.objs.size ≤ h3.objs.size := by omega
        exact e9
      · rcases List.mem_cons.mp z with z | z
        · rw [z]
          exact Nat.le_refl _
        · cases z
theorem preSum_map (f : Int → Int) (ws : List Int) (val : Nat → Int) (h : ∀ j a, ws[j]? = some a → val j = f a) : ∀ n, n ≤ ws.length → preSum val n = ((ws.take n).map f).sum := by
  intro n
  induction n with
  | zero =>
    intro _
    rfl
  | succ n ih =>
    intro hn
    have e : ws[n]? = some (ws[n]'(by omega)) := List.getElem?_eq_getElem _
    rw [List.take_succ_eq_append_getElem (by omega), List.map_append, List.sum_append, ← ih (by omega)]
    show preSum val n + val n = _
    rw [h n _ e]
    simp
/-- sum(f(x) for x in te) -/
def tSumG (K : PySem.W.Frag) (P : Addr) (Pz : Int → Prop) (f : Int → Int) (te : TE) : TE := fun σ H Q => te σ H fun u H2 => ∃ (yl : Addr) (ws : List Int), u = .ref yl ∧ SqL K H2 yl (ws.map V.int) ∧ (∀ a ∈ ws, Pz a) ∧ GxR.TabG H2 P ∧
  ∀ H3, GxR.Tabbed P H2 H3 → Q (.int ((ws.map f).sum)) H3
theorem pe_sumG {c P : Addr} {elt iter : Expr} {x : Str} {px p pos gpos : Pos} {scope : Scope} {Pz : Int → Prop} {f : Int → Int} {te : TE} {k : Nat}
    (hr : Room k X.A) (hg : Gl X "sum") (hm : X.mg "sum" = none) (hb : bootBuiltins "sum" = some (.builtin "sum")) (TB : GxR.TabB X.base X.mg c P) (hcode : X.env.code = .ref c) (S : GxR.GenS X.env scope x) (hi : PE X iter te) (hel : EltI X.prog X.w scope x elt Pz f)
    (hs : ∀ v, genFold iter X.env v = pure v)
    (he : starEach [.GeneratorExp elt [⟨.Name x px, iter, [], 0⟩] scope gpos] X.env = (false, eval (.GeneratorExp elt [⟨.Name x px, iter, [], 0⟩] scope gpos) X.env) :: starEach [] X.env := by rfl) :
    PE X (.Call (.Name "sum" p) [.GeneratorExp elt [⟨.Name x px, iter, [], 0⟩] scope gpos] [] pos) (tSumG X.K P Pz f te) := by
  refine ⟨fun pins s σ H Q I h => ?_⟩
  refine wpAny_Call_Name_kw (ld_blt I hg hm hb ?_)
  refine PyProof.Rows.callWith_builtin1 ?_ he (by rfl)
  rw [he]
  show wpAny _ _ (spliced ((false, eval (.GeneratorExp elt [⟨.Name x px, iter, [], 0⟩] scope gpos) X.env) :: backTo pos (starEach [] X.env))) _ _ s
  refine Calls.spliced_cons (gen_ints (R := fun ws H2 => ∀ H3, GxR.Tabbed P H2 H3 → Q (.int ((ws.map f).sum)) H3) hr TB hcode S hi hel hs I h fun ws H1 g s5 hR hG => ?_)
  refine Calls.spliced_nil ?_
  obtain ⟨fp, wr, G, F, St, W, hst, hfp, hval, hI⟩ := hG
  have hv : ∀ (j : Nat) (v : Value), F j v → ∃ t, v = .int (f (ws.getD j 0)) t := fun j v hF => by
    obtain ⟨a, t, e, ev⟩ := hval j v hF
    refine ⟨t, ?_⟩
    rw [ev, List.getD_eq_getElem?_getD, e] <;> rfl
  refine call_sum_walkAnyS (W.self 0 _ _ _ hst ⟨g, fp, wr, G, _, F, St, (fun j => f (ws.getD j 0)), rfl, W, hst, hfp, hv, fun s' t' hmv => ?_⟩)
  obtain ⟨H2, hT, J⟩ := hI s' hmv
  refine ⟨.int _, H2, J, ⟨t', rfl⟩, ?_⟩
  rw [preSum_map f ws _ (fun j a e => by simp [List.getD_eq_getElem?_getD, e]) ws.length (Nat.le_refl _), List.take_length]
  exact hR H2 hT
end
end Ft
namespace Ft
open PySem PySem.Spec PyProof.Rows L2
/-! ### is_in from within a generator's frame: nothing that stands is changed -/
structure Sees (K : PySem.W.Frag) (mg : Str → Option Value) (base : Heap) (env : Env) (h : Heap) : Prop where
  md : Mod K mg base
  kind : env.scope.kind = .function
  glob : env.globals = mainGlobals
  blt : env.builtins = builtinsNs
  bk : ∀ b o, base.get? b = some o → h.get? b = some o
section
variable {P : Program} {w : World} {K : PySem.W.Frag} {mg : Str → Option Value} {base : Heap} {A : Around} {env : Env} {s : Shared} {x : Str} {u : Value} {pos : Pos} {Q : Value → Shared → Prop} {E : Value → Shared → Prop}
theorem sees_glob (S : Sees K mg base env s.heap) (hg : env.kindOf x = some .globalImplicit) (hm : mg x = some u) (h : Q u s) (hd : (x == ("__debug__" : Str)) = false := by decide) : wpAny (model P w) A (eval (.Name x pos) env) Q E s :=
  Calls.Name_function_global S.kind hg (Calls.loadGlobal_global (by rw [S.glob]; exact S.md.glob.keeps S.bk) hm h) hd
theorem sees_blt (S : Sees K mg base env s.heap) (hg : env.kindOf x = some .globalImplicit) (hm : mg x = none) (hv : bootBuiltins x = some u) (h : Q u s) (hn : x ≠ "__name__" := by decide) (hd : (x == ("__debug__" : Str)) = false := by decide) :
    wpAny (model P w) A (eval (.Name x pos) env) Q E s := by
  obtain ⟨mb, h1, h2⟩ := S.md.blt
  exact Calls.Name_function_global S.kind hg (Calls.loadGlobal_builtin (by rw [S.glob]; exact S.md.glob.keeps S.bk) hm (by rw [S.blt]; exact h1.keeps S.bk) ((h2 x hn).trans hv) h) hd
theorem sees_loc {m : Str → Option Value} (S : Sees K mg base env s.heap) (hl : env.kindOf x = some .local) (hn : s.heap.Ns env.locals m) (hv : m x = some u) (h : Q u s) (hd : (x == ("__debug__" : Str)) = false := by decide) :
    wpAny (model P w) A (eval (.Name x pos) env) Q E s := wpAny_Name (wpAny_loadName_local S.kind hl hn hv h) hd
theorem keeps_trans {s1 s2 s3 : Shared} (a : Keeps s1 s2) (b : Keeps s2 s3) : Keeps s1 s3 := by
  obtain ⟨h1, t1, rfl, k1⟩ := a
  obtain ⟨h2, t2, rfl, k2⟩ := b
  exact ⟨h2, t2, rfl, fun c o e => k2 c o (k1 c o e)⟩
theorem keeps_call {s0 s1 : Shared} {L : Addr} {m cm : Str → Option Value} {cs : List (Str × Addr)} (x : InCallC s0 L m cs cm s1) (k : Nat) : Keeps s0 { s1 with toks := k } := by
  obtain ⟨h1, t1, rfl, k1⟩ := x.done
  exact ⟨h1, k, rfl, k1⟩
theorem q_isIn {f : Addr} {fd : FuncData} (MO : Mod K mg base) (B : Bt mg) (Fi : Fun K "is_in" "is_in" sIsIn f fd) (hb : Binds K fd ["value", "least", "most"] []) (hr : A.depth < recursionLimit) (bk : ∀ b o, base.get? b = some o → s.heap.get? b = some o)
    {a lo hi : Int} {ta tl th : Tok} (hQ : ∀ s', Keeps s s' → Q (.bool (decide (lo ≤ a) && decide (a ≤ hi))) s') : wpAny (model P w) A (call (.ref f) [.int a ta, .int lo tl, .int hi th]) Q E s := by
  obtain ⟨oc, od, kV, doc, pm, an, cdv, ct, osl, rfl, lk, hcd⟩ := Fi.ex
  have KX : K.In s.heap := MO.kin.keeps bk
  have lim := MO.nolimit.keeps bk
  refine wpAny_call (codeAny_call_function hr (KX _ _ lk) rfl scIsIn.co scIsIn.gen rfl (PySem.W.codeRec_of KX hcd) (hb s [.int a ta, .int lo tl, .int hi th] KX rfl _ _ _ _ ?_))
  refine wpAny_newFunctionEnv_cells scIsIn.kind (fun y hy => .inl ?_) fun env he s1 x => ?_
  · rcases List.mem_cons.mp hy with rfl | hy
    · rfl
    · rcases List.mem_cons.mp hy with rfl | hy
      · rfl
      · rcases List.mem_cons.mp hy with rfl | hy
        · rfl
        · cases hy
  refine ⟨lim.keeps x.toInCall.keep, codeAny_func ?_⟩
  have kk : ∀ k : Nat, Keeps s { s1 with toks := k } := keeps_call x
  have Se : ∀ k : Nat, Sees K mg base env ({ s1 with toks := k } : Shared).heap := fun k => ⟨MO, by rw [he]; exact scIsIn.kind, by rw [he]; rfl, by rw [he]; rfl, fun b o e => x.toInCall.keep b o (bk b o e)⟩
  have Se0 : Sees K mg base env s1.heap := Se s1.toks
  have hn := x.toInCall.ns
  have k1 : env.kindOf "value" = some .local := by rw [he]; rfl
  have k2 : env.kindOf "least" = some .local := by rw [he]; rfl
  have k3 : env.kindOf "most" = some .local := by rw [he]; rfl
  have g1 : env.kindOf "isinstance" = some .globalImplicit := by rw [he]; rfl
  have g2 : env.kindOf "int" = some .globalImplicit := by rw [he]; rfl
  have g3 : env.kindOf "bool" = some .globalImplicit := by rw [he]; rfl
  generalize hm : bindL env.kindOf _ _ = m at hn
  have m1 : m "value" = some (.int a ta) := by rw [← hm, he]; rfl
  have m2 : m "least" = some (.int lo tl) := by rw [← hm, he]; rfl
  have m3 : m "most" = some (.int hi th) := by rw [← hm, he]; rfl
  have KX1 : K.In s1.heap := KX.keeps x.toInCall.keep
  refine wpAny_execs_cons (wpAny_Return_some (BoolOp_and ?_))
  refine wpAny_Call_Name_kw (sees_blt Se0 g1 B.isinstance PyProof.Rows.boot_isinstance ?_)
  refine PyProof.Rows.callWith_builtin1 ?_
  refine Calls.spliced_cons (sees_loc Se0 k1 hn m1 ?_)
  refine Calls.spliced_cons (sees_blt Se0 g2 B.int boot_int ?_)
  refine Calls.spliced_nil ?_
  refine PySem.W.kia_one PySem.W.kitx_int KX1 True.intro (kit_ty (b := "int") (r := true) (by decide +kernel)) (fun z => nomatch z) fun tk1 => ?_
  refine wpAny_truthy_bool (iteT (BoolOp_and ?_))
  refine UnaryOp_ ?_
  refine wpAny_Call_Name_kw (sees_blt (Se tk1) g1 B.isinstance PyProof.Rows.boot_isinstance ?_)
  refine PyProof.Rows.callWith_builtin1 ?_
  refine Calls.spliced_cons (sees_loc (Se tk1) k1 hn m1 ?_)
  refine Calls.spliced_cons (sees_blt (Se tk1) g3 B.bool boot_bool ?_)
  refine Calls.spliced_nil ?_
  refine PySem.W.kia_one PySem.W.kitx_int KX1 True.intro (kit_ty (b := "bool") (r := false) (by decide +kernel)) (fun z => nomatch z) fun tk2 => ?_
  refine not_of (wpAny_truthy_bool (wpAny_truthy_bool (iteT (BoolOp_one ?_))))
  refine Compare_chain ?_
  refine sees_loc (Se tk2) k2 hn m2 (chain_link ?_)
  refine sees_loc (Se tk2) k1 hn m1 ?_
  refine PyProof.Rows.le_int (wpAny_truthy_bool ?_)
  by_cases h1 : lo ≤ a
  · rw [decide_eq_true h1] at hQ ⊢
    refine ite_tt (chain_last ?_)
    refine sees_loc (Se tk2) k3 hn m3 ?_
    refine PyProof.Rows.le_int ?_
    have := hQ _ (kk tk2)
    rw [Bool.true_and] at this
    exact this
  · rw [decide_eq_false h1] at hQ ⊢
    exact ite_ff (hQ _ (kk tk2))
end
end Ft
namespace Ft
open PySem PySem.Spec PyProof.Rows L2
/-! ### enumerate(v) -/
theorem meets_enum1 {v : Value} {o : Obj} {H : Heap → Prop} (B : Begins v o H) :
    Meets (Builtin.«enumerate.__new__» ⟨[.type "enumerate", v], []⟩) (fun _ R s => H s.heap ∧
      R (.ok (.ret (.ref (s.heap.push o).objs.size))) { s with heap := (s.heap.push o).push { cls := .type "enumerate", data := .fields #[.none, .bool false, .ref s.heap.objs.size, rawInt 0, .none, .none] } }) :=
  .of_wp fun prog w A R s h => by
    obtain ⟨hp, g, d, tk, os⟩ := s
    obtain ⟨h1, h⟩ := h
    have hsub := sub_enumerate
    have q1 : ∀ {A' : Around} {E : Value → Shared → Prop} {Q : Value → Shared → Prop}, Q (.ref hp.objs.size) ⟨hp.push o, g, d, tk, os⟩ → wpAny (model prog w) A' (pyIter v) Q E ⟨hp, g, d, tk, os⟩ :=
      fun q => B.iter prog w _ _ ⟨hp, g, d, tk, os⟩ _ h1 q
    wp_walk using q1
    refine wpAny_stack_any fun st => wpAny_pure ?_
    split
    · rename_i c _ _ _ _ _
      cases (c == Value.type "enumerate")
      · wp_walk using q1
        exact ⟨_, rfl, h⟩
      · wp_walk using q1
        exact ⟨_, rfl, h⟩
    · wp_walk using q1
      exact ⟨_, rfl, h⟩
section
variable {prog : Program} {w : World} {A : Around} {E : Value → Shared → Prop} {s : Shared}
theorem enum_begins1 {v : Value} {o : Obj} {H : Heap → Prop} {Q : Value → Shared → Prop} (B : Begins v o H) (h1 : H s.heap)
    (h : ∀ h', IsEnum h' (s.heap.objs.size + 1) s.heap.objs.size 0 .none → h'.get? s.heap.objs.size = some o → h'.objs.size = s.heap.objs.size + 2 → h' = (s.heap.push o).push { cls := .type "enumerate", data := .fields #[.none, .bool false, .ref s.heap.objs.size, rawInt 0, .none, .none] } →
      (∀ b o, s.heap.get? b = some o → h'.get? b = some o) → Q (.ref (s.heap.objs.size + 1)) { s with heap := h' }) :
    wpAny (model prog w) A (call (.type "enumerate") [v]) Q E s := by
  refine callType_new F.called_enumerate (by decide) (F.typeCall_enumerate_1 _) (F.newCall_enumerate_1 _) (fun obj => F.args_object_init_2 obj _) F.entry_enumerate_new
    (meets_enum1 B) ⟨h1, ?_⟩
  have hz : (s.heap.push o).objs.size = s.heap.objs.size + 1 := Heap.size_push ..
  show _ ∧ _
  rw [hz]
  have he : IsEnum ((s.heap.push o).push { cls := .type "enumerate", data := .fields #[.none, .bool false, .ref s.heap.objs.size, rawInt 0, .none, .none] }) (s.heap.objs.size + 1) s.heap.objs.size 0 .none := by
    have := Heap.get?_push_size (s.heap.push o) (o := { cls := .type "enumerate", data := .fields #[.none, .bool false, .ref s.heap.objs.size, rawInt 0, .none, .none] }) rfl
    rw [hz] at this
    exact this
  refine ⟨⟨_, he, rfl⟩, h _ he (Heap.get?_push_of_some _ (Heap.get?_push_size _ B.free)) (by rw [Heap.size_push, hz]) rfl fun b o x => Heap.get?_push_of_some _ (Heap.get?_push_of_some _ x)⟩
end
/-! ### the element of are_deputies -/
section
variable {P : Program} {w : World} {K : PySem.W.Frag} {mg : Str → Option Value} {base : Heap} {A : Around} {s : Shared}
theorem ev_m1 {env : Env} {k1 : Nat} {p3 p4 : Pos} {Q : Value → Shared → Prop} {E : Value → Shared → Prop} (h : ∀ t k, Q (.int (-1) t) { s with toks := k }) : wpAny (model P w) A (eval (.UnaryOp .USub (.Constant (.int 1) k1 p3) p4) env) Q E s :=
  UnaryOp_ (wpAny_Constant_int (PyProof.Rows.neg_int (h _ _)))
theorem ev_len1 {env : Env} {vc t : Addr} {its : Array Value} {Q : Value → Shared → Prop} {E : Value → Shared → Prop} {k2 : Nat} {p5 p6 p7 p8 p9 : Pos} (B : Bt mg) (S : Sees K mg base env s.heap) (g2 : env.kindOf "len" = some .globalImplicit) (l3 : env.kindOf "value" = some .free)
    (hc : env.cells.lookup ("value" : Str) = some vc) (hv : s.heap.IsCell vc (some (.ref t))) (hT : IsTup s.heap t its) (hz : (its.size : Int) < 2 ^ 63) (h : ∀ t k, Q (.int ((its.size : Int) - 1) t) { s with toks := k }) :
    wpAny (model P w) A (eval (.BinOp (.Call (.Name "len" p5) [.Name "value" p6] [] p7) .Sub (.Constant (.int 1) k2 p8) p9) env) Q E s := by
  refine wpAny_BinOp ?_
  refine wpAny_Call_Name_kw (sees_blt S g2 B.len PySem.boot_len ?_)
  refine PyProof.Rows.callWith_builtin1 ?_
  refine Calls.spliced_cons (wpAny_Name (wpAny_loadName_free S.kind l3 hc hv ?_))
  refine Calls.spliced_nil ?_
  refine PyProof.Rows.len_tuple hT hz ?_
  exact wpAny_Constant_int (PyProof.Rows.sub_int (h _ _))
theorem elt_dep {f : Addr} {fd : FuncData} {env : Env} {m : Str → Option Value} {vc t : Addr} {its : Array Value} {i a : Int} {ti ta : Tok} {E : Value → Shared → Prop} {k1 k2 : Nat} {p1 p2 p3 p4 p5 p6 p7 p8 p9 p10 p11 p12 p13 p14 : Pos}
    (B : Bt mg) (Fi : Fun K "is_in" "is_in" sIsIn f fd) (hb : Binds K fd ["value", "least", "most"] []) (hf : mg "is_in" = some (.ref f)) (kp : PySem.W.keepIn K (.ref f) = true) (hr : A.depth < recursionLimit) (S : Sees K mg base env s.heap)
    (g1 : env.kindOf "is_in" = some .globalImplicit) (g2 : env.kindOf "len" = some .globalImplicit) (l1 : env.kindOf "one" = some .local) (l2 : env.kindOf "person" = some .local) (l3 : env.kindOf "value" = some .free) (hc : env.cells.lookup ("value" : Str) = some vc)
    (hn : s.heap.Ns env.locals m) (m1 : m "one" = some (.int a ta)) (m2 : m "person" = some (.int i ti)) (hv : s.heap.IsCell vc (some (.ref t))) (hT : IsTup s.heap t its) (hz : (its.size : Int) < 2 ^ 63) :
    wpAny (model P w) A (eval (.BoolOp .And [.Call (.Name "is_in" p1) [.Name "one" p2, .UnaryOp .USub (.Constant (.int 1) k1 p3) p4, .BinOp (.Call (.Name "len" p5) [.Name "value" p6] [] p7) .Sub (.Constant (.int 1) k2 p8) p9] [] p10, .Compare (.Name "one" p11) [.NotEq] [.Name "person" p12] p13] p14) env)
      (fun y s₃ => y = .bool ((decide (-1 ≤ a) && decide (a ≤ (its.size : Int) - 1)) && !decide (a = i)) ∧ Keeps s s₃) E s := by
  have Sk : ∀ k : Nat, Sees K mg base env ({ s with toks := k } : Shared).heap := fun k => S
  refine BoolOp_and ?_
  refine wpAny_Call_Name_kw (sees_glob S g1 hf ?_)
  refine PySem.W.callWith_K (h₀ := base) S.md.kin kp ?_
  refine Calls.spliced_cons (sees_loc S l1 hn m1 ?_)
  refine Calls.spliced_cons (ev_m1 fun t1 j1 => ?_)
  refine Calls.spliced_cons (ev_len1 (s := { s with toks := j1 }) B (Sk j1) g2 l3 hc hv hT hz fun t2 j2 => ?_)
  refine Calls.spliced_nil ?_
  show _ ∧ wpAny _ _ _ _ _ { s with toks := j2 }
  refine ⟨S.md.kin.keeps S.bk, ?_⟩
  refine q_isIn (s := { s with toks := j2 }) S.md B Fi hb hr S.bk fun s' kk => ?_
  obtain ⟨h', tk', rfl, kk⟩ := kk
  have kp' : Keeps s { s with heap := h', toks := tk' } := ⟨h', tk', rfl, kk⟩
  refine wpAny_truthy_bool ?_
  cases hk : (decide (-1 ≤ a) && decide (a ≤ (its.size : Int) - 1)) with
  | false =>
    have e1 : (decide (-1 ≤ a) && decide (a ≤ (its.size : Int) - 1)) = false := hk
    refine ite_ff ⟨?_, kp'⟩
    rw [Bool.false_and]
  | true =>
    refine ite_tt (BoolOp_one (wpAny_Compare1 ?_))
    have S' : Sees K mg base env ({ s with heap := h', toks := tk' } : Shared).heap := ⟨S.md, S.kind, S.glob, S.blt, fun b o e => kk b o (S.bk b o e)⟩
    have hn' : ({ s with heap := h', toks := tk' } : Shared).heap.Ns env.locals m := hn.keeps kk
    refine sees_loc S' l1 hn' m1 (sees_loc S' l2 hn' m2 (PyProof.Rows.ne_int ⟨?_, kp'⟩))
    rw [Bool.true_and]
    congr 1
end
end Ft
namespace Ft
open PySem PySem.Spec PyProof.Rows L2
/-! ### all(.. for person, one in enumerate(value)) -/
def scpDep : Scope := { kind := .function, names := [(".0", .local), ("person", .local), ("one", .local), ("value", .free), ("is_in", .globalImplicit), ("len", .globalImplicit)], isGenerator := true, isCoroutine := false, more := [] }
def depAt (d : List Int) (i : Nat) : Bool := (decide (-1 ≤ d.getD i 0) && decide (d.getD i 0 ≤ (d.length : Int) - 1)) && !decide (d.getD i 0 = (i : Int))
def tAllDep (K : PySem.W.Frag) (P : Addr) : TE := fun σ H Q => ∃ (t : Addr) (d : List Int), σ[0]? = some (some (.ref t)) ∧ SqT K H t (d.map V.int) ∧ d.length ≤ 100 ∧ GxR.TabG H P ∧ ∀ H2, GxR.Tabbed P H H2 → Q (.bl ((List.range d.length).all (depAt d))) H2
section
variable {X : Cx}
theorem pe_allDep {c P f : Addr} {fd : FuncData} {k k1 k2 kt : Nat} {p pos gpos pa pb pt q1 q2 q3 p1 p2 p3 p4 p5 p6 p7 p8 p9 p10 p11 p12 p13 p14 : Pos} (B : Bt X.mg) (hr : Room k X.A) (TB : GxR.TabB X.base X.mg c P) (hcode : X.env.code = .ref c)
    (Fi : Fun X.K "is_in" "is_in" sIsIn f fd) (hb : Binds X.K fd ["value", "least", "most"] []) (hf : X.mg "is_in" = some (.ref f)) (kp : PySem.W.keepIn X.K (.ref f) = true)
    (hg1 : Gl X "all") (hg2 : Gl X "enumerate") (hvk : X.env.kindOf "value" = some .cell) (hN : X.N[0]? = some ("value" : Str))
    (hs : ∀ v, genFold (.Call (.Name "enumerate" q1) [.Name "value" q2] [] q3) X.env v = pure v)
    (he : starEach [.GeneratorExp (.BoolOp .And [.Call (.Name "is_in" p1) [.Name "one" p2, .UnaryOp .USub (.Constant (.int 1) k1 p3) p4, .BinOp (.Call (.Name "len" p5) [.Name "value" p6] [] p7) .Sub (.Constant (.int 1) k2 p8) p9] [] p10, .Compare (.Name "one" p11) [.NotEq] [.Name "person" p12] p13] p14) [⟨.Tuple [.Name "person" pa, .Name "one" pb] kt pt, .Call (.Name "enumerate" q1) [.Name "value" q2] [] q3, [], 0⟩] scpDep gpos] X.env
      = (false, eval (.GeneratorExp (.BoolOp .And [.Call (.Name "is_in" p1) [.Name "one" p2, .UnaryOp .USub (.Constant (.int 1) k1 p3) p4, .BinOp (.Call (.Name "len" p5) [.Name "value" p6] [] p7) .Sub (.Constant (.int 1) k2 p8) p9] [] p10, .Compare (.Name "one" p11) [.NotEq] [.Name "person" p12] p13] p14) [⟨.Tuple [.Name "person" pa, .Name "one" pb] kt pt, .Call (.Name "enumerate" q1) [.Name "value" q2] [] q3, [], 0⟩] scpDep gpos) X.env) :: starEach [] X.env := by rfl) :
    PE X (.Call (.Name "all" p) [.GeneratorExp (.BoolOp .And [.Call (.Name "is_in" p1) [.Name "one" p2, .UnaryOp .USub (.Constant (.int 1) k1 p3) p4, .BinOp (.Call (.Name "len" p5) [.Name "value" p6] [] p7) .Sub (.Constant (.int 1) k2 p8) p9] [] p10, .Compare (.Name "one" p11) [.NotEq] [.Name "person" p12] p13] p14) [⟨.Tuple [.Name "person" pa, .Name "one" pb] kt pt, .Call (.Name "enumerate" q1) [.Name "value" q2] [] q3, [], 0⟩] scpDep gpos] [] pos) (tAllDep X.K P) := by
  refine ⟨fun pins s σ H Q I h => ?_⟩
  obtain ⟨t, d, hσ, hT, hlen, ⟨ps, hP, ht⟩, hR⟩ := h
  obtain ⟨its, rv, hIT, hzz⟩ := I.tuple hT
  have hil : its.length = d.length := by rw [← rv.length, List.length_map]
  have hat : ∀ (i : Nat) (v : Value), its.toArray[i]? = some v → ∃ u : Tok, v = .int (d.getD i 0) u := fun i v hv => by
    have hv2 : its[i]? = some v := by simpa using hv
    have hi2 : i < its.length := (List.getElem?_eq_some_iff.mp hv2).1
    obtain ⟨a, ha⟩ : ∃ a, d[i]? = some a := ⟨d[i]'(by omega), List.getElem?_eq_getElem _⟩
    have hb : (d.map V.int)[i]? = some (V.int a) := by rw [List.getElem?_map, ha] <;> rfl
    obtain ⟨u, hu, ru⟩ := rv.get hb
    rw [hv2] at hu
    cases hu
    obtain ⟨t, e⟩ := (show ∃ t, v = Value.int a t from ru)
    refine ⟨t, ?_⟩
    rw [e, List.getD_eq_getElem?_getD, ha] <;> rfl
  obtain ⟨m0, hns0, hlk⟩ := I.loc
  obtain ⟨u, ru, lk⟩ := hlk 0 "value" (.ref t) hN hσ (.inr (.inl hvk))
  cases (show u = Value.ref t from ru)
  obtain ⟨vc, hvc, hcell⟩ : ∃ vc, X.env.cells.lookup ("value" : Str) = some vc ∧ s.heap.IsCell vc (some (.ref t)) := by
    rcases lk with ⟨lk, _⟩ | ⟨_, lk⟩
    · rw [hvk] at lk
      cases lk
    · exact lk
  have hPs : s.heap.get? P = some { cls := .none, data := .fields ps } := I.hok P _ hP
  have hPlt : P < s.heap.objs.size := Heap.lt_size hPs
  have hcl : cStatics < s.heap.objs.size := let ⟨_, hns, _⟩ := I.nolimit; hns.lt
  have htP : t ≠ P := fun z => by
    obtain ⟨_, e, hc1, _, hd1⟩ := _root_.id hIT
    rw [z, hPs] at e
    cases e
    cases hd1
  have htlt : t < s.heap.objs.size := by
    obtain ⟨_, e, _⟩ := _root_.id hIT
    exact Heap.lt_size e
  have hvP : vc ≠ P := fun z => by
    obtain ⟨_, e, hd1⟩ := _root_.id hcell
    rw [z, hPs] at e
    cases e
    cases hd1
  refine wpAny_Call_Name_kw (ld_blt I hg1 B.all PyProof.Rows.boot_all ?_)
  refine PyProof.Rows.callWith_builtin1 ?_ he (by rfl)
  rw [he]
  refine Calls.spliced_cons ?_
  refine wpAny_GeneratorExp_walksQTD (cl := cloFrom X.env.cells scpDep.names []) hr.hd rfl (closure_ok (fun y hy hyf => ?_)) (by decide +kernel) (by decide +kernel) (by decide +kernel) (by decide +kernel) (by decide +kernel) rfl (by have := hr.dp; omega) ?_ hs
  · have hy2 : y ∈ [((".0" : Str), NameKind.local), ("person", .local), ("one", .local), ("value", .free), ("is_in", .globalImplicit), ("len", .globalImplicit)] := hy
    rcases List.mem_cons.mp hy2 with z | hy2
    · rw [z] at hyf
      cases hyf
    rcases List.mem_cons.mp hy2 with z | hy2
    · rw [z] at hyf
      cases hyf
    rcases List.mem_cons.mp hy2 with z | hy2
    · rw [z] at hyf
      cases hyf
    rcases List.mem_cons.mp hy2 with z | hy2
    · rw [z]
      exact ⟨vc, hvc⟩
    rcases List.mem_cons.mp hy2 with z | hy2
    · rw [z] at hyf
      cases hyf
    rcases List.mem_cons.mp hy2 with z | hy2
    · rw [z] at hyf
      cases hyf
    · cases hy2
  refine wpAny_Call_Name_kw (ld_blt I hg2 B.enumerate PyProof.Rows.boot_enumerate ?_)
  refine PyProof.Rows.callWith_type1 ?_
  refine Calls.spliced_cons (wpAny_Name (wpAny_loadName_cell I.ok.kind hvk hvc hcell ?_))
  refine Calls.spliced_nil ?_
  refine enum_begins1 (begins_tuple t its.toArray) hIT fun h2 he0 hit0 hsz0 hh0 hk0 => ?_
  have lim2 : h2.NoLimit := I.nolimit.keeps hk0
  refine wpAny_pyIter_enum he0 ⟨lim2, gx_code (h2 := h2) (tk2 := s.toks) TB hcode I hP ht hk0 lim2 fun code h3 tk ps' more hx hsz hP3 em ht3 lim3 => ?_⟩
  generalize hN0 : s.heap.objs.size = N0 at *
  have keep3 : ∀ b u, b ≠ P → s.heap.get? b = some u → h3.get? b = some u := fun b u hb e => hx b u hb (hk0 _ _ e)
  have hI0 : h2.IsTupleIter N0 t 0 := ⟨_, hit0, rfl, rfl⟩
  have hT2 : h2.IsTuple t its.toArray := by
    obtain ⟨ob, e, r⟩ := _root_.id hIT
    exact ⟨ob, hk0 _ _ e, r⟩
  have hT3 : h3.IsTuple t its.toArray := by
    obtain ⟨ob, e, r⟩ := _root_.id hT2
    exact ⟨ob, hx _ _ htP e, r⟩
  have hI3 : h3.IsTupleIter N0 t 0 := by
    obtain ⟨ob, e, r⟩ := _root_.id hI0
    exact ⟨ob, hx _ _ (Nat.ne_of_gt hPlt) e, r⟩
  have he3 : IsEnum h3 (N0 + 1) N0 0 .none := hx _ _ (Nat.ne_of_gt (Nat.lt_succ_of_lt hPlt)) he0
  have hc3 : h3.IsCell vc (some (.ref t)) := by
    obtain ⟨ob, e, r⟩ := _root_.id hcell
    exact ⟨ob, keep3 _ _ hvP e, r⟩
  have hvlt : vc < N0 := by
    obtain ⟨ob, e, r⟩ := _root_.id hcell
    rw [← hN0]
    exact Heap.lt_size e
  have hn3 : N0 + 2 ≤ h3.objs.size := by rw [← hsz0]; exact hsz
  have hei : (N0 + 1 : Nat) ≠ N0 := Nat.succ_ne_self _
  have hef : (N0 + 1 : Nat) ∉ [N0, t] := fun z => by
    rcases List.mem_cons.mp z with z | z
    · exact hei z
    · rcases List.mem_cons.mp z with z | z
      · rw [← z] at htlt
        exact Nat.lt_irrefl _ (Nat.lt_of_succ_lt htlt)
      · cases z
  refine ⟨N0 + 1, [N0 + 1, N0, t], [N0 + 1, N0], its.toArray.size, _, _, _, (fun _ => true), (fun i y => y = .bool (depAt d i)), rfl, (fun A' hA => (WalksT.enumerateD (Draws.tuple (A := A'.in1) hA N0 t (Nat.ne_of_lt htlt) its.toArray) (N0 + 1) hei hef (by simp)).toU), ?_, ⟨⟨_, he3⟩, hI3, hT3⟩, ?_, lim3, ?_, ?_, ?_⟩
  · rintro i vals ⟨t1, x1, _, rfl⟩
    exact ⟨_, _, rfl⟩
  · intro b hb
    show b < h3.objs.size
    rcases List.mem_cons.mp hb with z | z
    · rw [z]
      exact Nat.lt_of_lt_of_le (Nat.lt_succ_self _) hn3
    · rcases List.mem_cons.mp z with z | z
      · rw [z]
        exact Nat.lt_of_lt_of_le (Nat.lt_succ_of_lt (Nat.lt_succ_self _)) hn3
      · rcases List.mem_cons.mp z with z | z
        · rw [z]
          exact Nat.lt_of_lt_of_le htlt (Nat.le_of_lt (Nat.lt_of_lt_of_le (Nat.lt_succ_of_lt (Nat.lt_succ_self _)) hn3))
        · cases z
  · intro z
    rcases List.mem_cons.mp z with z | z
    · exact Nat.ne_of_lt (Nat.lt_succ_of_lt hcl) z
    · rcases List.mem_cons.mp z with z | z
      · exact Nat.ne_of_lt hcl z
      · cases z
  · intro href hhref
    have nw : ∀ b, b < N0 → b ∉ [N0 + 1, N0] := fun b hb z => by
      rcases List.mem_cons.mp z with z | z
      · rw [z] at hb
        exact Nat.lt_irrefl _ (Nat.lt_of_succ_lt hb)
      · rcases List.mem_cons.mp z with z | z
        · rw [z] at hb
          exact Nat.lt_irrefl _ hb
        · cases z
    have up : ∀ (s₂ : Shared), (∀ b ∈ List.range h3.objs.size, b ∉ [N0 + 1, N0] → ∀ o, href.get? b = some o → s₂.heap.get? b = some o) → ∀ b u, b ≠ P → s.heap.get? b = some u → s₂.heap.get? b = some u := fun s₂ hk b u hb e => by
      have hl : b < N0 := by rw [← hN0]; exact Heap.lt_size e
      exact hk b (List.mem_range.mpr (Nat.lt_of_lt_of_le hl (Nat.le_of_lt (Nat.lt_of_lt_of_le (Nat.lt_succ_of_lt (Nat.lt_succ_self _)) hn3)))) (nw b hl) u (hhref b u (keep3 b u hb e))
    have bP : ∀ b o, X.base.get? b = some o → b ≠ P := fun b o e z => by
      have := (I.bs b o e).2
      rw [z, hP] at this
      cases this
    refine ⟨fun A' E' i va vb s₂ m₂ hA hd hu hPv hn hma hmb hk => ?_, fun A' E' i va vb s₂ m₂ hA hd hu hPv hp hn hma hmb hk => ?_⟩
    · simp only [List.forIn_nil]
      exact wpAny_pure ⟨rfl, GxR.keeps_refl _⟩
    · obtain ⟨t1, x1, hx1, e1⟩ := hPv
      obtain ⟨u1, rfl⟩ := hat i x1 hx1
      have e2 : [va, vb] = [Value.int (i : Int) t1, Value.int (d.getD i 0) u1] := congrArg Array.toList e1
      injection e2 with ea e3
      injection e3 with eb e4
      subst ea
      subst eb
      have Se : Sees X.K X.mg X.base (genEnv scpDep (cloFrom X.env.cells scpDep.names []) h3.objs.size code builtinsNs X.env) s₂.heap :=
        ⟨I.mod, rfl, I.ok.glob, rfl, fun b o e => up s₂ hk b o (bP b o e) (I.bk b o e)⟩
      have hd' : A'.depth < recursionLimit := by have := hr.dp; omega
      have hcl2 : (genEnv scpDep (cloFrom X.env.cells scpDep.names []) h3.objs.size code builtinsNs X.env).cells.lookup ("value" : Str) = some vc := by
        show List.lookup ("value" : Str) [(("value" : Str), (X.env.cells.lookup ("value" : Str)).getD 0)] = some vc
        rw [hvc]
        rfl
      have hcv : s₂.heap.IsCell vc (some (.ref t)) := by
        obtain ⟨ob, e, r⟩ := _root_.id hcell
        exact ⟨ob, up s₂ hk _ _ hvP e, r⟩
      have hTv : IsTup s₂.heap t its.toArray := by
        obtain ⟨ob, e, r⟩ := _root_.id hIT
        exact ⟨ob, up s₂ hk _ _ htP e, r⟩
      have esz : (its.toArray.size : Int) = (d.length : Int) := by rw [List.size_toArray, hil]
      refine wpAny_mono (elt_dep (its := its.toArray) B Fi hb hf kp hd' Se rfl rfl rfl rfl rfl hcl2 hn hmb hma hcv hTv (by rw [esz]; omega)) (fun y s3 r => ?_) fun _ _ e => e
      refine ⟨?_, r.2⟩
      rw [r.1, esz]
      rfl
  · intro g h5 tk5 gs hgb hag hsz5 hk5 W5 hgat
    simp only [GxR.passing_true, List.length_range] at W5
    have hn5 : its.toArray.size = d.length := by rw [List.size_toArray, hil]
    rw [hn5] at W5 hgat
    refine Calls.spliced_nil ?_
    have W := W5.in4_1
    refine call_all_walkS (W.self 0 _ _ _ hgat ⟨g, _, _, _, _, _, _, (depAt d), rfl, W, hgat, ?_, fun s' hm => ?_⟩)
    · intro j y sj Qj Ej hy hQj
      obtain ⟨i, hij, ey⟩ := hy
      obtain ⟨hj, ej⟩ := List.getElem?_eq_some_iff.mp hij
      rw [List.getElem_range] at ej
      subst ej
      rw [ey]
      exact wpAny_truthy_bool hQj
    · obtain ⟨H2, hTb, J⟩ := gx_inv I hP em ht3 hP3 keep3 hk5 hgb (fun b hb => by
        rw [hN0]
        rcases List.mem_cons.mp hb with z | z
        · rw [z]
          exact Nat.le_of_lt (Nat.lt_of_lt_of_le (Nat.lt_succ_of_lt (Nat.lt_succ_self _)) hn3)
        · rcases List.mem_cons.mp z with z | z
          · rw [z]
            exact Nat.le_succ _
          · rcases List.mem_cons.mp z with z | z
            · rw [z]
              exact Nat.le_refl _
            · cases z) hm
      exact ⟨.bl _, H2, J, rfl, hR H2 hTb⟩
end
end Ft
namespace Ft
open PySem PySem.Spec PyProof.Rows L2
/-! ### are_deputies -/
/-- the def x of the text, its code object at c -/
def DfC (K : PySem.W.Frag) (mg : Str → Option Value) (x : Str) (st : Stmt) (ps : List Str) (c : Addr) : Prop := ∃ (f : Addr) (oc : Value) (od : Option Addr) (kV doc pm : Value) (an : Option Addr) (ct : Value) (osl : Array (Option Value)),
  K.lookup f = some ⟨oc, od, .func (PySem.W.fnOf x x (defArgs st) (defBody st) (defScope st) .none kV doc pm an (.ref c) ct), osl⟩ ∧ PySem.W.codeIn K (.ref c) x = true ∧ PySem.W.keepIn K (.ref f) = true ∧
  Binds K (PySem.W.fnOf x x (defArgs st) (defBody st) (defScope st) .none kV doc pm an (.ref c) ct) ps [] ∧ mg x = some (.ref f)
theorem DfC.ok {P : Program} {w : World} {K : PySem.W.Frag} {mg : Str → Option Value} {base : Heap} {x : Str} {st : Stmt} {N ps : List Str} {k : Nat} {sp : Sp} {c : Addr} (D : DfC K mg x st ps c) (S : FnScope N ps (defScope st)) (len : ∀ vs H Q E, sp vs H Q E → vs.length = ps.length)
    (hbody : ∀ (f : Addr) (A : Around) (outer : List Env) (s : Shared) (H : Hp) (vs : List V) (Q : VK) (E : XK), Room k (A.deeper (envOfC x (defScope st) s.heap.objs.size f (.ref c))) → sp vs H Q E →
      ∃ t, PSs (cxOf CX0 P w K mg base N x (defScope st) f (.ref c) A outer s H E).nox (defBody st) t ∧ t { nx := fun _ H' => Q .non H', rt := Q } (start N vs) H) : Cal P w K mg base (k + 1) x ps sp := by
  obtain ⟨f, oc, od, kV, doc, pm, an, ct, osl, lk, hcd, kp, b, g⟩ := D
  refine ⟨f, _, fn_of lk hcd S len fun A outer s H vs Q E hr hsp => ?_, g, kp, b⟩
  obtain ⟨t, h, q⟩ := hbody f A outer s H vs Q E hr hsp
  exact ⟨t, h.nox, q⟩
section
variable {P : Program} {w : World} {K : PySem.W.Frag} {mg : Str → Option Value} {base : Heap} {P1 c : Addr}
theorem ok_areDeputies (B : Bt mg) (T : Ct mg) (D : DfC K mg "are_deputies" sAreDeputies ["value"] c) (DI : Df K mg "is_in" sIsIn ["value", "least", "most"]) (TB : GxR.TabB base mg c P1) : Cal P w K mg base 2 "are_deputies" ["value"] (spAreDep K P1) := by
  obtain ⟨fI, fdI, FI, bI, gI⟩ := DI
  obtain ⟨tp, gp⟩ := T.people
  refine D.ok scAreDeputies (fun vs H Q E h => ?_) (fun f A outer s H vs Q E hr h => ?_)
  · rcases h with ⟨t, ns, rfl, _⟩ | ⟨l, xs, rfl, _⟩ <;> rfl
  · refine ⟨_, pss_cons (ps_if (PW.pt (pw_or (pt_not (pt_val (pe_callB call_isi (by rfl) B.isinstance PyProof.Rows.boot_isinstance (pa_cons (pv 0) (pa_cons (pe_bltn (v := .ty "tuple") (by rfl) B.tuple boot_tuple rfl) pa_nil)))))
        (pw_or1 (pt_not (pt_chain op_le op_le pe_int (pe_callB call_len_seq (by rfl) B.len PySem.boot_len (pa_cons (pv 0) pa_nil)) (pe_glob (v := .int 6) (by rfl) gp ⟨_, rfl⟩)))))) (pss_one (ps_ret pe_bl)) pss_nil)
      (pss_one (ps_ret (pe_allDep B hr TB rfl FI bI gI FI.kp (by rfl) (by rfl) (by rfl) (by rfl) (fun _ => rfl)))), ?_⟩
    rcases h with ⟨t, ns, rfl, hT, hl, hP, q⟩ | ⟨l, xs, rfl, hL, q⟩
    · refine ⟨.ref t, rfl, .ref t, .ty "tuple", .type "tuple", .type "tuple", true, rfl, .ty _, tyx_tup hT, kit_ty (by decide +kernel), true, rfl, iteF ?_⟩
      have hlm : ((ns.map V.int).length : Int) = (ns.length : Int) := by rw [List.length_map]
      refine ⟨.ref t, rfl, t, ns.map V.int, rfl, .inr hT, 1, _, rfl, rfl, decide ((1 : Int) ≤ ((ns.map V.int).length : Int)), rfl, ?_⟩
      rw [hlm]
      unfold areDepM at q
      by_cases h1 : (1 : Int) ≤ (ns.length : Int)
      · rw [decide_eq_true h1] at q ⊢
        refine iteT ⟨_, 6, rfl, rfl, decide ((ns.length : Int) ≤ 6), rfl, ?_⟩
        by_cases h6 : (ns.length : Int) ≤ 6
        · rw [decide_eq_true h6] at q ⊢
          refine iteF ⟨t, ns, rfl, hT, hl, hP, fun H2 hT2 => ?_⟩
          exact q H2 (Ext.of_tabbed hP hT2)
        · rw [decide_eq_false h6] at q ⊢
          exact iteT (q H (Ext.refl H))
      · rw [decide_eq_false h1] at q ⊢
        exact iteF ⟨false, rfl, iteT (q H (Ext.refl H))⟩
    · refine ⟨.ref l, rfl, .ref l, .ty "tuple", .type "list", .type "tuple", false, rfl, .ty _, tyx_lst hL, kit_ty (by decide +kernel), false, rfl, iteT (iteT (q H (Ext.refl H)))⟩
end
end Ft
namespace Ft
open PySem PySem.Spec PyProof.Rows L2
/-! ### spread -/
def cntsM (d : List Int) (m : Int) : List Int := (lotsOf d.length m).map fun s => (((holdersM d s).count (-1) : Nat) : Int)
def meanM (d : List Int) (m : Int) : List Int := ratM (cntsM d m).sum ((cntsM d m).length : Int)
def sqM (d : List Int) (m : Int) : List Int := ratM (((cntsM d m).map fun i => i * i).sum) ((cntsM d m).length : Int)
def spreadM (d : List Int) (m : Int) : List Int := minusM (sqM d m) (byM (meanM d m) (meanM d m))
theorem spread_small0 : ∀ n ≤ 3, 1 ≤ n → ∀ d ∈ depsM n, ∀ m ≤ n, smallP (meanM d (m : Nat)) = true ∧ smallP (sqM d (m : Nat)) = true ∧ smallP (byM (meanM d (m : Nat)) (meanM d (m : Nat))) = true := by decide +kernel
theorem spread_small {d : List Int} {m : Int} (g : GoodD d) (h0 : 0 ≤ m) (h1 : m ≤ d.length) : smallP (meanM d m) = true ∧ smallP (sqM d m) = true ∧ smallP (byM (meanM d m) (meanM d m)) = true := by
  have h := spread_small0 d.length g.2.1 g.1 d g.2.2 m.toNat (by omega)
  rw [show ((m.toNat : Nat) : Int) = m by omega] at h
  exact h
def spSpread (K : PySem.W.Frag) (P1 P2 : Addr) : Sp := fun vs H Q _ => ∃ (t : Addr) (d : List Int) (m : Int), vs = [.ref t, .int m] ∧ SqT K H t (d.map V.int) ∧ GoodD d ∧ 0 ≤ m ∧ m ≤ d.length ∧ GxR.TabG H P1 ∧ GxR.TabG H P2 ∧
  ∀ H' v, Ext H H' → TI K H' v (spreadM d m) → Q v H'
theorem nofreeOne : ∀ y ∈ [((".0" : Str), NameKind.local), ("one", .local)], y.2 ≠ .free := by decide +kernel
theorem holders_len (d s : List Int) : (holdersM d s).length = d.length := by
  unfold holdersM
  rw [List.length_map, List.length_range]
theorem cnts_get {d : List Int} {m : Int} {a : Int} (h : a ∈ cntsM d m) (h3 : d.length ≤ 3) : CMul a a := by
  obtain ⟨s, _, rfl⟩ := List.mem_map.mp h
  have h1 := List.count_le_length (a := (-1 : Int)) (l := holdersM d s)
  rw [holders_len] at h1
  exact .inl ⟨by omega, by omega⟩
section
variable {P : Program} {w : World} {K : PySem.W.Frag} {mg : Str → Option Value} {base : Heap} {P1 P2 c : Addr}
theorem ok_spread (B : Bt mg) (D : DfC K mg "spread" sSpread ["deputies", "many"] c) (TB : GxR.TabB base mg c P2) (CM : Cal P w K mg base 4 "need_many" ["deputies", "many"] (spNeedMany K P1)) (CA : Cal P w K mg base 3 "all_holders" ["deputies", "gone"] (spAllHolders K))
    (CL : Cal P w K mg base 2 "lots_of" ["deputies", "many"] (spLotsOf K)) (CR : Cal P w K mg base 1 "ratio" ["top", "bottom"] (spRatio K)) (CX : Cal P w K mg base 2 "minus" ["one", "other"] (spMinus K)) (CB : Cal P w K mg base 2 "by" ["one", "other"] (spBy K)) :
    Cal P w K mg base 5 "spread" ["deputies", "many"] (spSpread K P1 P2) := by
  refine D.ok scSpread (fun vs H Q E h => ?_) (fun f A outer s H vs Q E hr h => ?_)
  · obtain ⟨t, d, m, rfl, _⟩ := h
    rfl
  · obtain ⟨t, d, m, rfl, hT, g, m0, m1, hP1, hP2, q⟩ := h
    have hr3 : Room 3 _ := hr.mono (by decide)
    have hr2 : Room 2 _ := hr.mono (by decide)
    have hr1 : Room 1 _ := hr.mono (by decide)
    refine ⟨_, pss_cons (ps_expr (pe_c CM hr (by rfl) (pa_cons (pv 0) (pa_cons (pv 1) pa_nil))))
      (pss_cons (ps_setLc (i := 2) (own := [("lot", 4)]) (g := gName 4) (tt := tYes) (by rfl) scSpread.nd rfl rfl (sw_true rfl rfl rfl (by decide +kernel)) (pi_list (pe_c CL hr2 (by rfl) (pa_cons (pv 0) (pa_cons (pv 1) pa_nil))))
        (blkOk_by (N := ["deputies", "many", "some", "mean", "lot"]) (sc := defScope sSpread) (by decide +kernel)) (fun _ _ _ _ _ => pg_name (i := 4) scSpread.nd rfl (Or.inl rfl)) (fun _ _ _ _ _ => pts_nil)
        (fun _ _ _ _ _ => pe_bmK K PySem.F.plainAttrs_list PySem.F.slot_list_count PySem.F.type_list_count (mt_countK K) (pe_c CA hr3 (by rfl) (pa_cons (pv 0) (pa_cons (pv 4) pa_nil))) (pa_cons (pe_un un_neg pe_int) pa_nil)))
      (pss_cons (ps_set (i := 3) scSpread.nd rfl (.inl rfl) (pe_c CR hr1 (by rfl) (pa_cons (pe_callB (cr_sum rfl) (by rfl) B.sum (by decide +kernel) (pa_cons (pv 2) pa_nil)) (pa_cons (pe_callB call_len_seq (by rfl) B.len PySem.boot_len (pa_cons (pv 2) pa_nil)) pa_nil))))
      (pss_one (ps_ret (pe_c CX hr2 (by rfl) (pa_cons (pe_c CR hr1 (by rfl) (pa_cons (pe_sumG hr1 (by rfl) B.sum (by decide +kernel) TB rfl ⟨rfl, rfl, by decide +kernel, rfl, rfl, fun y hy e => absurd e (nofreeOne y hy)⟩ (pv 2) (elt_sq rfl rfl) (fun _ => rfl)) (pa_cons (pe_callB call_len_seq (by rfl) B.len PySem.boot_len (pa_cons (pv 2) pa_nil)) pa_nil)))
        (pa_cons (pe_c CB hr2 (by rfl) (pa_cons (pv 3) (pa_cons (pv 3) pa_nil))) pa_nil))))))), ?_⟩
    refine ⟨.ref t, rfl, .int m, rfl, t, d, m, rfl, hT, g, m0, m1, hP1, fun H1 e1 => ?_⟩
    refine ⟨.ref t, rfl, .int m, rfl, t, d, m, rfl, e1.sqt hT, g.1, g.2.1, fun H2 l ys e2 nl hl hL => ⟨l, rfl, ⟨_, SqL.of hl⟩, fun D nD => ?_⟩⟩
    have e12 := e1.trans e2
    obtain ⟨p1, p2⟩ := lotsOf_pos (m := m) g.1 g.2.1 m0 m1
    have hyl := hL.len
    refine lc_lst (a := l) (xs := ys) (j := 4) yes (RI fun i => (((holdersM d ((lotsOf d.length m).getD i [])).count (-1) : Nat) : Int)) (RI.mono _) ?_ (SqL.of hl) nD ?_ ?_ ?_ ?_
    · omega
    · exact fun _ => rfl
    · exact fun i x H' hx e Q2 h2 => h2 H' (Ext.refl H')
    · intro i x H' hx e _ _ Q2 h2
      obtain ⟨s, hs, ts, rfl, hts⟩ := LT.get (hL.mono e) hx
      refine ⟨.ref t, rfl, .ref ts, rfl, t, ts, d, s, rfl, (e12.trans e).sqt hT, hts, by have := g.2.1; omega, g.ch, fun H5 l5 e5 n5 h5 => ?_⟩
      refine ⟨.inl ⟨rfl, _, SqL.of h5⟩, 1, rfl, l5, holdersM d s, -1, rfl, rfl, SqL.of h5, ?_⟩
      refine h2 _ H5 e5 ?_
      show V.int _ = V.int (((holdersM d ((lotsOf d.length m).getD i [])).count (-1) : Nat) : Int)
      rw [getD_of hs]
    · intro H' zs e hzs hp
      have ez := paired_RI (H := fun k y => hid D H') hp
      rw [filter_yes, hyl] at ez
      have er : (List.range (lotsOf d.length m).length).map (fun i => (((holdersM d ((lotsOf d.length m).getD i [])).count (-1) : Nat) : Int)) = cntsM d m := by
        have := range_filter [] (lotsOf d.length m) (fun _ => true) (fun s => (((holdersM d s).count (-1) : Nat) : Int))
        rw [List.filter_eq_self.mpr (fun _ _ => rfl), List.filter_eq_self.mpr (fun _ _ => rfl)] at this
        exact this
      rw [er] at ez
      subst ez
      have eA := e12.trans e
      have hcl : (cntsM d m).length = (lotsOf d.length m).length := by
        unfold cntsM
        rw [List.length_map]
      obtain ⟨s1, s2, s3⟩ := spread_small g m0 m1
      refine ⟨.ref D, rfl, D, cntsM d m, rfl, SqL.of hzs, .ref D, rfl, D, _, rfl, .inl (SqL.of hzs), (cntsM d m).sum, ((cntsM d m).length : Int), ?_, by omega, by omega, fun H3 v3 e3 hv3 => ?_⟩
      · rw [List.length_map]
      have h3 := e3.lst hzs
      refine ⟨.ref D, rfl, D, cntsM d m, rfl, SqL.of h3, fun a ha => cnts_get ha g.2.1, (eA.trans e3).tab _ hP2, fun H4 t4 => ?_⟩
      have e4 := Ext.of_tabbed ((eA.trans e3).tab _ hP2) t4
      refine ⟨.ref D, rfl, D, _, rfl, .inl (SqL.of (e4.lst h3)), ((cntsM d m).map fun i => i * i).sum, ((cntsM d m).length : Int), ?_, by omega, by omega, fun H5 v5 e5 hv5 => ?_⟩
      · rw [List.length_map]
      refine ⟨v3, rfl, v3, rfl, v3, v3, meanM d m, meanM d m, rfl, (hv3.mono e4).mono e5, (hv3.mono e4).mono e5, s1, s1, fun H6 v6 e6 hv6 => ?_⟩
      exact ⟨v5, v6, sqM d m, byM (meanM d m) (meanM d m), rfl, hv5.mono e6, hv6, s2, s3, fun H7 v7 e7 hv7 => q H7 v7 (((((eA.trans e3).trans e4).trans e5).trans e6).trans e7) hv7⟩
end
end Ft
namespace Ft
open PySem PySem.Spec PyProof.Rows L2
/-! ### the plain law -/
def badM (n : Nat) (e : List Int) : List Int := ((lotsM n).filter fun s => decide ((-1 : Int) ∈ lholdersM e s)).map fun s => (s.length : Int)
def goodL (n : Nat) (m : Int) : List (List Int) := (depsM n).filter fun e => decide (m ≤ shortM e - 1)
def chgM (n : Nat) (d : List Int) (m : Int) : List Int := (goodL n m).map fun e => unlM e d
def lcnM (d : List Int) : List Int := (List.range d.length).map fun k : Nat => ((lchM d (k : Int)).length : Int)
theorem f_bad : ∀ n ≤ 3, 1 ≤ n → ∀ e ∈ depsM n, badM n e ≠ [] ∧ minL (badM n e) = shortM e := by decide +kernel
theorem f_chain : ∀ n ≤ 3, 1 ≤ n → ∀ d ∈ depsM n, lcnM d ≠ [] ∧ minL (lcnM d) = shortM d := by decide +kernel
theorem f_sure : ∀ n ≤ 3, 1 ≤ n → ∀ m ≤ n, sureCM n m = ((((depsM n).filter fun e => decide (((m : Nat) : Int) ≤ shortM e - 1)).length : Nat) : Int) := by decide +kernel
def few_ok (n : Nat) (d : List Int) (m : Int) : Bool := match fewM d m with
  | none => (goodL n m).isEmpty
  | some (c, x) => !(goodL n m).isEmpty && decide (c = minL (chgM n d m)) && decide (x ∈ goodL n m) && decide (unlM x d = c) && decide (c ≤ 3)
theorem f_few : ∀ n ≤ 3, 1 ≤ n → ∀ d ∈ depsM n, ∀ m ≤ 3, few_ok n d (m : Nat) = true := by decide +kernel
theorem f_nodup : ∀ n ≤ 3, (depsM n).Nodup := by decide +kernel
theorem f_len : ∀ n ≤ 3, ∀ e ∈ depsM n, e.length = n := by decide +kernel
def lcntsM (d : List Int) (m : Int) : List Int := (lotsOf d.length m).map fun s => (((lholdersM d s).count (-1) : Nat) : Int)
theorem f_cnts : ∀ n ≤ 3, 1 ≤ n → ∀ d ∈ depsM n, ∀ m ≤ n, lcntsM d (m : Nat) = cntsM d (m : Nat) := by decide +kernel
theorem f_spread : ∀ n ≤ 3, 1 ≤ n → ∀ d ∈ depsM n, ∀ m ≤ n, spreadM d (m : Nat) = plusM (sqM d (m : Nat)) (byM [-1, 1] (byM (meanM d (m : Nat)) (meanM d (m : Nat)))) ∧ smallP (byM [-1, 1] (byM (meanM d (m : Nat)) (meanM d (m : Nat)))) = true ∧ (spreadM d (m : Nat)).length ≤ 100 := by decide +kernel
def lbothC (d : List Int) (a b : Nat) (L : List (List Int)) : Int := (((L.filter fun s => decide ((lholdersM d s).getD a 0 = -1) && decide ((lholdersM d s).getD b 0 = -1)).length : Nat) : Int)
theorem f_both : ∀ n ≤ 3, 1 ≤ n → ∀ d ∈ depsM n, ∀ m ≤ n, ∀ a < n, ∀ b < n, lbothC d a b (lotsOf n (m : Nat)) = bothC d (a : Nat) (b : Nat) (lotsOf n (m : Nat)) := by decide +kernel
end Ft
namespace Ft
open PySem PySem.Spec PyProof.Rows L2
/-! ### the law's statements, one by one -/
abbrev lawN : List Str := ["_law_script", "_law_row", "_law_size", "_law_deputies_here", "_law_every_here", "_law_lots_here", "_law_many", "_law_one", "_law_other", "_law_out", "_law_each", "_law_bad", "_law_few", "_law_good", "_law_changes", "_law_best", "_law_found", "_law_last", "_law_value", "_law_due", "_law_held", "_law_counts", "_law_mean", "_law_square", "_law_both", "_law_lot_here", "_law_k"]
abbrev lawX (P : Program) (w : World) (K : PySem.W.Frag) (mg : Str → Option Value) (base : Heap) (f : Addr) (cdv : Value) (A : Around) (outer : List Env) (s : Shared) (H : Hp) (E : XK) : Cx := (cxOf CX0 P w K mg base lawN "law" (defScope sLaw) f cdv A outer s H E).nox
abbrev lawSt (i : Nat) : Stmt := (defBody sLaw).getD i (.Pass ⟨0, 0, 0, 0⟩)
def Stp (X : Cx) (st : Stmt) (Pre Post : L2.St → Hp → Prop) : Prop := ∃ t, PS X st t ∧ ∀ D σ H, Pre σ H → (∀ σ' H', Post σ' H' → D.nx σ' H') → t D σ H
/-! slots -/
def Has (σ : L2.St) (l : List (Nat × V)) : Prop := σ.length = 27 ∧ ∀ i v, l.lookup i = some v → σ[i]? = some (some v)
theorem Has.at {σ : L2.St} {l : List (Nat × V)} (h : Has σ l) {i : Nat} {v : V} (e : l.lookup i = some v) : σ[i]? = some (some v) := h.2 i v e
theorem Has.set {σ : L2.St} {l : List (Nat × V)} {j : Nat} {v : V} (h : Has σ l) (hj : j < 27) : Has (σ.set j (some v)) ((j, v) :: l) := by
  refine ⟨by rw [List.length_set]; exact h.1, fun i u e => ?_⟩
  rw [List.lookup_cons] at e
  by_cases hij : i = j
  · subst hij
    rw [beq_self_eq_true] at e
    cases e
    rw [List.getElem?_set_self (by rw [h.1]; exact hj)]
  · rw [show (i == j) = false by simpa using hij] at e
    rw [List.getElem?_set_ne (Ne.symm hij)]
    exact h.2 i u e
def SubL : List (Nat × V) → List (Nat × V) → Prop
  | [], _ => True
  | (i, v) :: r, l => l.lookup i = some v ∧ SubL r l
theorem SubL.look : ∀ {l' l : List (Nat × V)}, SubL l' l → ∀ i v, l'.lookup i = some v → l.lookup i = some v
  | [], _, _, _, _, e => by cases e
  | (j, u) :: r, l, h, i, v, e => by
    rw [List.lookup_cons] at e
    by_cases hij : i = j
    · subst hij
      rw [beq_self_eq_true] at e
      cases e
      exact h.1
    · rw [show (i == j) = false by simpa using hij] at e
      exact SubL.look h.2 i v e
theorem Has.sub {σ : L2.St} {l l' : List (Nat × V)} (h : Has σ l) (s : SubL l' l) : Has σ l' := ⟨h.1, fun i v e => h.2 i v (s.look i v e)⟩
theorem wipe1 {σ : L2.St} {j : Nat} : wipe σ [j] = σ.set j none := rfl
theorem Has.wipe {σ : L2.St} {l : List (Nat × V)} {j : Nat} (h : Has σ l) (hn : l.lookup j = none) : Has (wipe σ [j]) l := by
  refine ⟨by rw [wipe1, List.length_set]; exact h.1, fun i v e => ?_⟩
  have hij : j ≠ i := fun z => by rw [z, e] at hn; cases hn
  rw [wipe1, List.getElem?_set_ne hij]
  exact h.2 i v e
theorem hw1 {σ : L2.St} {j : Nat} (x : V) : wipe ((wipe σ [j]).set j (some x)) [j] = wipe σ [j] := by
  rw [wipe1, wipe1, List.set_set, List.set_set]
theorem Has.blk {σ : L2.St} {l : List (Nat × V)} {j : Nat} {x : V} (h : Has σ l) (hn : l.lookup j = none) (hj : j < 27) : Has ((L2.wipe σ [j]).set j (some x)) ((j, x) :: l) := (h.wipe hn).set hj
/-! what stands -/
structure Pm where
  r : Addr
  sc : Addr
  td : Addr
  le : Addr
  ll : Addr
  n : Nat
  m : Nat
  a : Nat
  b : Nat
  d : List Int
  ns : List Int
structure PmOk (p : Pm) : Prop where
  n1 : 1 ≤ p.n
  n3 : p.n ≤ 3
  hd : p.d ∈ depsM p.n
  m3 : p.m ≤ 3
  an : p.a < p.n
  bn : p.b < p.n
theorem PmOk.good {p : Pm} (h : PmOk p) : GoodD p.d := (good_of h.n1 h.n3 h.hd).1
theorem PmOk.len {p : Pm} (h : PmOk p) : p.d.length = p.n := (good_of h.n1 h.n3 h.hd).2
structure HR (K : PySem.W.Frag) (P1 P2 r sc : Addr) (ns : List Int) (H : Hp) : Prop where
  row : RowOk H r sc
  scr : SqL K H sc (ns.map V.int)
  t1 : GxR.TabG (hid r H) P1
  t2 : GxR.TabG (hid r H) P2
theorem RowOk.ext {H H' : Hp} {r sc : Addr} (h : RowOk H r sc) (e : Ext H H') : RowOk H' r sc := by
  obtain ⟨i, m, c, h1, h2⟩ := h
  exact ⟨i, m, c, e.lst h1, h2⟩
theorem HR.ext {K : PySem.W.Frag} {P1 P2 r sc : Addr} {ns : List Int} {H H' : Hp} (h : HR K P1 P2 r sc ns H) (e : Ext H H') : HR K P1 P2 r sc ns H' :=
  ⟨h.row.ext e, e.seq h.scr, (e.hidden r).tab _ h.t1, (e.hidden r).tab _ h.t2⟩
/-- behind a change of the row -/
theorem HR.took {K : PySem.W.Frag} {P1 P2 r sc : Addr} {ns : List Int} {H H' : Hp} (h : HR K P1 P2 r sc ns H) (e : Ext (hid r H) (hid r H')) (hR : RowOk H' r sc) (hS : SqL K H' sc (ns.map V.int)) : HR K P1 P2 r sc ns H' :=
  ⟨hR, hS, e.tab _ h.t1, e.tab _ h.t2⟩
theorem HR.take {K : PySem.W.Frag} {P1 P2 r sc : Addr} {ns : List Int} {H : Hp} {i m c : Int} (h : HR K P1 P2 r sc ns H) (h0 : 0 ≤ i) (h1 : 0 ≤ m) (h2 : m < 2147483647) : HR K P1 P2 r sc ns (upd H r (.lst (RowV sc i m c))) := by
  obtain ⟨_, _, _, eR, _⟩ := h.row
  exact h.took (by rw [hid_upd]; exact Ext.refl _) ⟨i, m, c, upd_same, h0, h1, h2⟩ (sq_row h.scr eR)
theorem HR.g1 {K : PySem.W.Frag} {P1 P2 r sc : Addr} {ns : List Int} {H : Hp} (h : HR K P1 P2 r sc ns H) : GxR.TabG H P1 := (ext_hid r H).tab _ h.t1
theorem HR.g2 {K : PySem.W.Frag} {P1 P2 r sc : Addr} {ns : List Int} {H : Hp} (h : HR K P1 P2 r sc ns H) : GxR.TabG H P2 := (ext_hid r H).tab _ h.t2
structure HF (K : PySem.W.Frag) (P1 P2 : Addr) (p : Pm) (H : Hp) : Prop where
  hr : HR K P1 P2 p.r p.sc p.ns H
  td : hid p.r H p.td = some (.tup (p.d.map V.int))
  le : ∃ ys, hid p.r H p.le = some (.lst ys) ∧ LS (hid p.r H) ys (depsM p.n)
  ll : ∃ ys, hid p.r H p.ll = some (.lst ys) ∧ LT K (hid p.r H) ys (lotsM p.n)
theorem HF.of {K : PySem.W.Frag} {P1 P2 : Addr} {p : Pm} {H H' : Hp} (h : HF K P1 P2 p H) (e : Ext (hid p.r H) (hid p.r H')) (hr : HR K P1 P2 p.r p.sc p.ns H') : HF K P1 P2 p H' := by
  obtain ⟨ys, h1, h2⟩ := h.le
  obtain ⟨zs, h3, h4⟩ := h.ll
  exact ⟨hr, e.tup h.td, ⟨ys, e.lst h1, h2.mono e⟩, ⟨zs, e.lst h3, h4.mono e⟩⟩
theorem HF.ext {K : PySem.W.Frag} {P1 P2 : Addr} {p : Pm} {H H' : Hp} (h : HF K P1 P2 p H) (e : Ext H H') : HF K P1 P2 p H' := h.of (e.hidden _) (h.hr.ext e)
theorem HF.tdS {K : PySem.W.Frag} {P1 P2 : Addr} {p : Pm} {H : Hp} (h : HF K P1 P2 p H) : H p.td = some (.tup (p.d.map V.int)) := (ext_hid _ _).tup h.td
theorem HF.tdT {K : PySem.W.Frag} {P1 P2 : Addr} {p : Pm} {H : Hp} (h : HF K P1 P2 p H) : SqT K H p.td (p.d.map V.int) := SqT.of h.tdS
theorem HF.every {K : PySem.W.Frag} {P1 P2 : Addr} {p : Pm} {H : Hp} (h : HF K P1 P2 p H) : ∃ ys, H p.le = some (.lst ys) ∧ LS H ys (depsM p.n) := by
  obtain ⟨ys, h1, h2⟩ := h.le
  exact ⟨ys, (ext_hid _ _).lst h1, h2.mono (ext_hid _ _)⟩
theorem HF.lots {K : PySem.W.Frag} {P1 P2 : Addr} {p : Pm} {H : Hp} (h : HF K P1 P2 p H) : ∃ ys, H p.ll = some (.lst ys) ∧ LT K H ys (lotsM p.n) := by
  obtain ⟨ys, h1, h2⟩ := h.ll
  exact ⟨ys, (ext_hid _ _).lst h1, h2.mono (ext_hid _ _)⟩
def base8 (p : Pm) : List (Nat × V) := [(1, .ref p.r), (2, .int (p.n : Int)), (3, .ref p.td), (4, .ref p.le), (5, .ref p.ll), (6, .int (p.m : Int)), (7, .int (p.a : Int)), (8, .int (p.b : Int))]
/-! ### the draws -/
def Q0 (K : PySem.W.Frag) (P1 P2 : Addr) (σ : L2.St) (H : Hp) : Prop := ∃ (sc : Addr) (ns : List Int), σ = start lawN [.ref sc] ∧ SqL K H sc (ns.map V.int) ∧ GxR.TabG H P1 ∧ GxR.TabG H P2
def Q1 (K : PySem.W.Frag) (P1 P2 : Addr) (σ : L2.St) (H : Hp) : Prop := ∃ (r sc : Addr) (ns : List Int), Has σ [(1, .ref r)] ∧ HR K P1 P2 r sc ns H
def Q2 (K : PySem.W.Frag) (P1 P2 : Addr) (σ : L2.St) (H : Hp) : Prop := ∃ (r sc : Addr) (ns : List Int) (n : Nat), 1 ≤ n ∧ n ≤ 3 ∧ Has σ [(1, .ref r), (2, .int (n : Int))] ∧ HR K P1 P2 r sc ns H
def Q3 (K : PySem.W.Frag) (P1 P2 : Addr) (σ : L2.St) (H : Hp) : Prop := ∃ p : Pm, PmOk p ∧ Has σ [(1, .ref p.r), (2, .int (p.n : Int)), (3, .ref p.td), (4, .ref p.le), (5, .ref p.ll)] ∧ HF K P1 P2 p H
def Q4 (K : PySem.W.Frag) (P1 P2 : Addr) (σ : L2.St) (H : Hp) : Prop := ∃ p : Pm, PmOk p ∧ Has σ (base8 p) ∧ HF K P1 P2 p H
section
variable {P : Program} {w : World} {K : PySem.W.Frag} {mg : Str → Option Value} {base : Heap} {P1 P2 : Addr} {f : Addr} {cdv : Value} {A : Around} {outer : List Env} {s : Shared} {H0 : Hp} {E : XK}
theorem law0 : Stp (lawX P w K mg base f cdv A outer s H0 E) (lawSt 0) (Q0 K P1 P2) (Q1 K P1 P2) := by
  refine ⟨_, ps_set (i := 1) scLaw.nd rfl (.inl rfl) (pe_lst (pa_cons (pv 0) (pa_cons pe_int (pa_cons pe_int (pa_cons pe_int pa_nil))))), fun D σ H h q => ?_⟩
  obtain ⟨sc, ns, rfl, hS, h1, h2⟩ := h
  refine ⟨.ref sc, rfl, by show 4 ≤ sizeLine; decide, fun r nr => q _ _ ⟨r, sc, ns, ⟨rfl, fun i v e => ?_⟩, ⟨⟨0, 13827, 0, upd_same, by decide, by decide, by decide⟩, (Ext.new nr).seq hS, ?_, ?_⟩⟩⟩
  · rw [List.lookup_cons] at e
    by_cases hij : i = 1
    · subst hij
      cases e
      rfl
    · rw [show (i == 1) = false by simpa using hij] at e
      cases e
  · rw [hid_upd]
    exact ((Ext.refl H).to_hid nr).tab _ h1
  · rw [hid_upd]
    exact ((Ext.refl H).to_hid nr).tab _ h2
theorem law1 (hr : Room 5 (A.deeper (envOfC "law" (defScope sLaw) s.heap.objs.size f cdv))) (CT : Cal P w K mg base 1 "_law_taken" ["_law_row", "_law_many"] (spTaken K)) : Stp (lawX P w K mg base f cdv A outer s H0 E) (lawSt 1) (Q1 K P1 P2) (Q2 K P1 P2) := by
  have hr1 : Room 1 _ := hr.mono (by decide)
  refine ⟨_, ps_set (i := 2) scLaw.nd rfl (.inr rfl) (pe_op op_add pe_int (pe_c CT hr1 (by rfl) (pa_cons (pv 1) (pa_cons pe_int pa_nil)))), fun D σ H h q => ?_⟩
  obtain ⟨r, sc, ns, hσ, hR⟩ := h
  refine ⟨.ref r, hσ.at rfl, r, sc, ns, 3, rfl, by decide, by decide, hR.row, hR.scr, fun k i' m' c' k0 k1 i0 m0 m1 => ⟨1, k, rfl, rfl, q _ _ ⟨r, sc, ns, (1 + k).toNat, by omega, by omega, ?_, hR.take i0 m0 m1⟩⟩⟩
  rw [show (((1 + k).toNat : Nat) : Int) = 1 + k by omega]
  exact (hσ.set (by decide)).sub ⟨rfl, rfl, trivial⟩
theorem LS.hidden {H : Hp} {r : Addr} {xs ys : List V} {L : List (List Int)} (h : LS H ys L) (hr : H r = some (.lst xs)) : LS (hid r H) ys L := L2.Paired.mapP h fun _ _ q => TS.hidden q hr
theorem LT.hidden {H : Hp} {r : Addr} {xs ys : List V} {L : List (List Int)} (h : LT K H ys L) (hr : H r = some (.lst xs)) : LT K (hid r H) ys L := L2.Paired.mapP h fun _ _ q => TI.hidden q hr
theorem law2 (hr : Room 5 (A.deeper (envOfC "law" (defScope sLaw) s.heap.objs.size f cdv))) (CD : Cal P w K mg base 2 "_law_deputies" ["_law_row", "_law_size"] (spLawDeps K)) (CE : Cal P w K mg base 1 "_law_every" ["_law_size"] spLawEvery)
    (CL : Cal P w K mg base 1 "_law_lots" ["_law_size"] (spAllLots K)) : Stp (lawX P w K mg base f cdv A outer s H0 E) (lawSt 2) (Q2 K P1 P2) (Q3 K P1 P2) := by
  have hr1 : Room 1 _ := hr.mono (by decide)
  have hr2 : Room 2 _ := hr.mono (by decide)
  refine ⟨_, ps_asg (pe_tup (pa_cons (pe_c CD hr2 (by rfl) (pa_cons (pv 1) (pa_cons (pv 2) pa_nil))) (pa_cons (pe_c CE hr1 (by rfl) (pa_cons (pv 2) pa_nil)) (pa_cons (pe_c CL hr1 (by rfl) (pa_cons (pv 2) pa_nil)) pa_nil))))
    (pg_tupK (n := 3) K (by rfl) (pgs_cons (pg_name (i := 3) scLaw.nd rfl (.inr rfl)) (pgs_cons (pg_name (i := 4) scLaw.nd rfl (.inl rfl)) (pgs_cons (pg_name (i := 5) scLaw.nd rfl (.inl rfl)) pgs_nil)))), fun D σ H h q => ?_⟩
  obtain ⟨r, sc, ns, n, n1, n3, hσ, hR⟩ := h
  refine ⟨.ref r, hσ.at rfl, .int (n : Int), hσ.at rfl, r, sc, ns, n, rfl, n1, n3, hR.row, hR.scr, fun H1 td d e1 hR1 hS1 ht hd => ?_⟩
  have hR1' := hR.took e1 hR1 hS1
  refine ⟨.int (n : Int), hσ.at rfl, n, rfl, n3, fun H2 le ys e2 nle hle hL => ?_⟩
  refine ⟨.int (n : Int), hσ.at rfl, n, rfl, n1, n3, fun H3 ll zs e3 nll hll hLT => ?_⟩
  refine ⟨by show 3 ≤ sizeLine; decide, fun T nT => ⟨T, _, rfl, SqT.of upd_same, rfl, .ref td, _, rfl, .ref le, _, rfl, .ref ll, _, rfl, rfl, ?_⟩⟩
  have e4 : Ext H3 (upd H3 T (.tup [.ref td, .ref le, .ref ll])) := Ext.new nT
  have hR2 := hR1'.ext e2
  have hR3 := hR2.ext e3
  obtain ⟨_, _, _, x1, _⟩ := hR1'.row
  obtain ⟨_, _, _, x2, _⟩ := hR2.row
  obtain ⟨_, _, _, x3, _⟩ := hR3.row
  have nlr : le ≠ r := fun z => by rw [z, x1] at nle; cases nle
  have nlr2 : ll ≠ r := fun z => by rw [z, x2] at nll; cases nll
  refine q _ _ ⟨⟨r, sc, td, le, ll, n, 0, 0, 0, d, ns⟩, ⟨n1, n3, hd, Nat.zero_le _, n1, n1⟩, (((hσ.set (by decide)).set (by decide)).set (by decide)).sub ⟨rfl, rfl, rfl, rfl, rfl, trivial⟩, ?_⟩
  refine HF.ext (H := H3) ⟨hR3, ((e2.trans e3).hidden r).tup ht, ⟨ys, ?_, ?_⟩, ⟨zs, ?_, ?_⟩⟩ e4
  · show hid r H3 le = _
    rw [hid_ne nlr]
    exact e3.lst hle
  · exact (hL.mono e3).hidden x3
  · show hid r H3 ll = _
    rw [hid_ne nlr2]
    exact hll
  · exact hLT.hidden x3
theorem law3 (hr : Room 5 (A.deeper (envOfC "law" (defScope sLaw) s.heap.objs.size f cdv))) (CT : Cal P w K mg base 1 "_law_taken" ["_law_row", "_law_many"] (spTaken K)) : Stp (lawX P w K mg base f cdv A outer s H0 E) (lawSt 3) (Q3 K P1 P2) (Q4 K P1 P2) := by
  have hr1 : Room 1 _ := hr.mono (by decide)
  refine ⟨_, ps_asg (pe_tup (pa_cons (pe_c CT hr1 (by rfl) (pa_cons (pv 1) (pa_cons pe_int pa_nil))) (pa_cons (pe_c CT hr1 (by rfl) (pa_cons (pv 1) (pa_cons (pv 2) pa_nil))) (pa_cons (pe_c CT hr1 (by rfl) (pa_cons (pv 1) (pa_cons (pv 2) pa_nil))) pa_nil))))
    (pg_tupK (n := 3) K (by rfl) (pgs_cons (pg_name (i := 6) scLaw.nd rfl (.inr rfl)) (pgs_cons (pg_name (i := 7) scLaw.nd rfl (.inr rfl)) (pgs_cons (pg_name (i := 8) scLaw.nd rfl (.inr rfl)) pgs_nil)))), fun D σ H h q => ?_⟩
  obtain ⟨p, ok, hσ, hF⟩ := h
  have n1 := ok.n1
  have n3 := ok.n3
  refine ⟨.ref p.r, hσ.at rfl, p.r, p.sc, p.ns, 4, rfl, by decide, by decide, hF.hr.row, hF.hr.scr, fun k1 i1 m1 c1 a1 b1 i10 m10 m11 => ?_⟩
  have hF1 : HF K P1 P2 p (upd H p.r (.lst (RowV p.sc i1 m1 c1))) := hF.of (by simp only [hid_upd]; exact Ext.refl _) (hF.hr.take i10 m10 m11)
  refine ⟨.ref p.r, hσ.at rfl, .int (p.n : Int), hσ.at rfl, p.r, p.sc, p.ns, (p.n : Int), rfl, by omega, by omega, hF1.hr.row, hF1.hr.scr, fun k2 i2 m2 c2 a2 b2 i20 m20 m21 => ?_⟩
  have hF2 := hF1.of (H' := upd (upd H p.r (.lst (RowV p.sc i1 m1 c1))) p.r (.lst (RowV p.sc i2 m2 c2))) (by simp only [hid_upd]; exact Ext.refl _) (hF1.hr.take i20 m20 m21)
  refine ⟨.ref p.r, hσ.at rfl, .int (p.n : Int), hσ.at rfl, p.r, p.sc, p.ns, (p.n : Int), rfl, by omega, by omega, hF2.hr.row, hF2.hr.scr, fun k3 i3 m3 c3 a3 b3 i30 m30 m31 => ?_⟩
  have hF3 := hF2.of (H' := upd (upd (upd H p.r (.lst (RowV p.sc i1 m1 c1))) p.r (.lst (RowV p.sc i2 m2 c2))) p.r (.lst (RowV p.sc i3 m3 c3))) (by simp only [hid_upd]; exact Ext.refl _) (hF2.hr.take i30 m30 m31)
  refine ⟨by show 3 ≤ sizeLine; decide, fun T nT => ⟨T, _, rfl, SqT.of upd_same, rfl, .int k1, _, rfl, .int k2, _, rfl, .int k3, _, rfl, rfl, ?_⟩⟩
  refine q _ _ ⟨{ p with m := k1.toNat, a := k2.toNat, b := k3.toNat }, ⟨ok.n1, ok.n3, ok.hd, by show k1.toNat ≤ 3; omega, by show k2.toNat < p.n; omega, by show k3.toNat < p.n; omega⟩, ?_, ?_⟩
  · have hs := (((hσ.set (j := 6) (v := .int k1) (by decide)).set (j := 7) (v := .int k2) (by decide)).set (j := 8) (v := .int k3) (by decide))
    refine hs.sub ⟨rfl, rfl, rfl, rfl, rfl, ?_, ?_, ?_, trivial⟩
    · show _ = some (V.int ((k1.toNat : Nat) : Int))
      rw [show ((k1.toNat : Nat) : Int) = k1 by omega]
      rfl
    · show _ = some (V.int ((k2.toNat : Nat) : Int))
      rw [show ((k2.toNat : Nat) : Int) = k2 by omega]
      rfl
    · show _ = some (V.int ((k3.toNat : Nat) : Int))
      rw [show ((k3.toNat : Nat) : Int) = k3 by omega]
      rfl
  · have h4 := hF3.ext (Ext.new (o := .tup [.int k1, .int k2, .int k3]) nT)
    exact ⟨h4.hr, h4.td, h4.le, h4.ll⟩
end
end Ft
namespace Ft
open PySem PySem.Spec PyProof.Rows L2
/-! ### _law_out -/
def keyI (e : List Int) : List L2.Key := e.map Sum.inl
theorem keyI_V (e : List Int) : (keyI e).map kV = e.map V.int := by
  unfold keyI
  rw [List.map_map]
  rfl
theorem keyI_inj {a b : List Int} (h : keyI a = keyI b) : a = b := by
  have h2 := congrArg (List.map kV) h
  rw [keyI_V, keyI_V] at h2
  have h3 : ∀ (x y : List Int), x.map V.int = y.map V.int → x = y := by
    intro x
    induction x with
    | nil => intro y e; cases y with
      | nil => rfl
      | cons _ _ => cases e
    | cons p r ih => intro y e; cases y with
      | nil => cases e
      | cons q t =>
        rw [List.map_cons, List.map_cons] at e
        injection e with e1 e2
        injection e1 with e1
        rw [e1, ih t e2]
  exact h3 a b h2
def outOf (L : List (List Int)) : List (List L2.Key × V) := L.map fun e => (keyI e, V.int (shortM e - 1))
theorem out_get {L : List (List Int)} {e : List Int} (h : e ∈ L) : valV (outOf L) (keyI e) = some (.int (shortM e - 1)) := by
  induction L with
  | nil => cases h
  | cons x r ih =>
    unfold valV outOf
    rw [List.map_cons, List.find?_cons]
    by_cases hx : keyI x = keyI e
    · rw [decide_eq_true hx]
      have := keyI_inj hx
      subst this
      rfl
    · rw [decide_eq_false hx]
      rcases List.mem_cons.mp h with z | z
      · rw [z] at hx
        exact absurd rfl hx
      · exact ih z
theorem out_put {L : List (List Int)} {e : List Int} (h : e ∉ L) : putK (outOf L) (keyI e) (.int (shortM e - 1)) = outOf (L ++ [e]) := by
  unfold putK
  have hn : ((outOf L).any fun kv => decide (kv.1 = keyI e)) = false := by
    rw [List.any_eq_false]
    intro kv hkv
    obtain ⟨x, hx, rfl⟩ := List.mem_map.mp hkv
    rw [decide_eq_true_eq]
    intro z
    rw [keyI_inj z] at hx
    exact h hx
  rw [if_neg (by rw [hn]; decide)]
  unfold outOf
  rw [List.map_append]
  rfl
def Q5 (K : PySem.W.Frag) (P1 P2 : Addr) (σ : L2.St) (H : Hp) : Prop := ∃ (p : Pm) (od : Addr), PmOk p ∧ Has σ ((9, .ref od) :: base8 p) ∧ HF K P1 P2 p (hid od H) ∧ H od = some (.dT [])
def Q6 (K : PySem.W.Frag) (P1 P2 : Addr) (σ : L2.St) (H : Hp) : Prop := ∃ (p : Pm) (od : Addr), PmOk p ∧ Has σ ((9, .ref od) :: base8 p) ∧ HF K P1 P2 p H ∧ H od = some (.dT (outOf (depsM p.n)))
theorem depsM_len64 : ∀ n ≤ 3, (depsM n).length ≤ 64 := by decide +kernel
theorem lotsM_len8 : ∀ n ≤ 3, (lotsM n).length ≤ 8 := by decide +kernel
section
variable {P : Program} {w : World} {K : PySem.W.Frag} {mg : Str → Option Value} {base : Heap} {P1 P2 : Addr} {f : Addr} {cdv : Value} {A : Around} {outer : List Env} {s : Shared} {H0 : Hp} {E : XK}
theorem law4 : Stp (lawX P w K mg base f cdv A outer s H0 E) (lawSt 4) (Q4 K P1 P2) (Q5 K P1 P2) := by
  refine ⟨_, ps_set (i := 9) scLaw.nd rfl (.inr rfl) pe_dnewT, fun D σ H h q => ?_⟩
  obtain ⟨p, ok, hσ, hF⟩ := h
  intro od nd
  refine q _ _ ⟨p, od, ok, hσ.set (by decide), ?_, upd_same⟩
  rw [hid_upd]
  exact hF.ext ((Ext.refl H).to_hid nd)
theorem law5 (B : Bt mg) (hr : Room 5 (A.deeper (envOfC "law" (defScope sLaw) s.heap.objs.size f cdv))) (CH : Cal P w K mg base 2 "_law_holders" ["_law_deputies_here", "_law_gone"] (spLawHolders K)) : Stp (lawX P w K mg base f cdv A outer s H0 E) (lawSt 5) (Q5 K P1 P2) (Q6 K P1 P2) := by
  have hr2 : Room 2 _ := hr.mono (by decide)
  have hu := hu_of hr
  refine ⟨_, ps_for PassesOwn.never rfl (pi_list (pv 4)) (pg_name (i := 10) scLaw.nd rfl (.inr rfl))
    (pss_cons (ps_setLc (i := 11) (own := [("_law_lot_here", 25)]) (g := gName 25) (by rfl) scLaw.nd rfl rfl (sw_true rfl rfl rfl (by decide +kernel)) (pi_list (pv 5))
        (blkOk_by (N := lawN) (sc := defScope sLaw) (by decide +kernel)) (fun _ _ _ _ _ => pg_name (i := 25) scLaw.nd rfl (Or.inl rfl))
        (fun _ _ _ _ _ => pts_one (pt_cmpR (op_inK K) (pe_un un_neg pe_int) (pe_c CH hr2 (by rfl) (pa_cons (pv 10) (pa_cons (pv 25) pa_nil))) (by rfl)))
        (fun _ _ _ _ _ => pe_callB (call_lenK K) (by rfl) B.len PySem.boot_len (pa_cons (pv 25) pa_nil)))
    (pss_one (ps_dput hu (pv 9) (pv 10) (pe_op op_sub (pe_callB (cr_min (by rfl)) (by rfl) B.min PyProof.Rows.boot_min (pa_cons (pv 11) pa_nil)) pe_int) rfl))), fun D σ H h q => ?_⟩
  obtain ⟨p, od, ok, hσ, hF, hod⟩ := h
  obtain ⟨ys, hle, hLS⟩ := hF.every
  have hle' : H p.le = some (.lst ys) := (ext_hid _ _).lst hle
  have hlen : ys.length ≤ 64 := by rw [hLS.len]; exact depsM_len64 p.n ok.n3
  refine ⟨.ref p.le, hσ.at rfl, p.le, rfl, ⟨ys, SqL.of hle'⟩, ?_⟩
  refine for_list (K := K) (a := p.le) (xs := ys) (fun i σ H' => Has σ ((9, .ref od) :: base8 p) ∧ Ext (hid od H) (hid od H') ∧ H' od = some (.dT (outOf ((depsM p.n).take i)))) ⟨hσ, Ext.refl _, hod⟩
    (fun i σ H' _ h => SqL.of ((ext_hid od _).lst (h.2.1.lst hle))) ?_ ?_
  · rintro i y σ H1 hy ⟨hσ1, e1, ho1⟩
    obtain ⟨e, he, t, rfl, ht⟩ := (hLS.mono e1).get hy
    have hF1 := hF.ext e1
    have hemem : e ∈ depsM p.n := List.mem_of_getElem? he
    obtain ⟨ge, gl⟩ := good_of ok.n1 ok.n3 hemem
    have hσ2 : Has (σ.set 10 (some (.ref t))) ((10, .ref t) :: (9, .ref od) :: base8 p) := hσ1.set (by decide)
    obtain ⟨zs, hll, hLT⟩ := hF1.lots
    have hll1 : H1 p.ll = some (.lst zs) := (ext_hid _ _).lst hll
    have hLT1 := hLT.mono (ext_hid od H1)
    have ht1 : H1 t = some (.tup (e.map V.int)) := (ext_hid _ _).tup ht
    refine ⟨.ref p.ll, hσ2.at rfl, p.ll, rfl, ⟨zs, SqL.of hll1⟩, fun D nD => ?_⟩
    have hzl := hLT1.len
    have h8 := lotsM_len8 p.n ok.n3
    refine lc_lst (a := p.ll) (xs := zs) (j := 25) (fun i => decide ((-1 : Int) ∈ lholdersM e ((lotsM p.n).getD i []))) (RI fun i => ((((lotsM p.n).getD i []).length : Nat) : Int)) (RI.mono _) (by omega) (SqL.of hll1) nD (fun x => hw1 x) ?_ ?_ ?_
    · intro k x H2 hx e2 Q2 h2
      obtain ⟨sl, hs, ts, rfl, hts⟩ := LT.get (hLT1.mono e2) hx
      have hσ3 := hσ2.blk (j := 25) (x := .ref ts) rfl (by decide)
      refine ⟨1, rfl, .ref t, hσ3.at rfl, .ref ts, hσ3.at rfl, t, ts, e, sl, rfl, SqT.of (e2.tup ht1), hts, ge, fun H5 l5 e5 n5 h5 => ?_⟩
      refine ⟨l5, _, rfl, .inl (SqL.of h5), rfl, flat_ints _, inV (.int (-1)) ((lholdersM e sl).map V.int), rfl, ?_⟩
      rw [inV_ints]
      have := h2 H5 e5
      rw [getD_of hs] at this
      exact this
    · intro k x H2 hx e2 _ _ Q2 h2
      obtain ⟨sl, hs, ts, rfl, hts⟩ := LT.get (hLT1.mono e2) hx
      have hσ3 := hσ2.blk (j := 25) (x := .ref ts) rfl (by decide)
      refine ⟨.ref ts, hσ3.at rfl, ts, _, rfl, .inr hts, h2 _ H2 (Ext.refl H2) ?_⟩
      show V.int _ = V.int ((((lotsM p.n).getD k []).length : Nat) : Int)
      rw [getD_of hs, List.length_map]
    · intro H2 ws e2 hws hp
      have ew := paired_RI (H := fun k y => hid D H2) hp
      rw [hzl] at ew
      have er : ((List.range (lotsM p.n).length).filter fun i => decide ((-1 : Int) ∈ lholdersM e ((lotsM p.n).getD i []))).map (fun i => ((((lotsM p.n).getD i []).length : Nat) : Int)) = badM p.n e :=
        range_filter [] (lotsM p.n) (fun sl => decide ((-1 : Int) ∈ lholdersM e sl)) (fun sl => (sl.length : Int))
      rw [er] at ew
      subst ew
      obtain ⟨b1, b2⟩ := f_bad p.n ok.n3 ok.n1 e hemem
      have hσ3 : Has ((σ.set 10 (some (.ref t))).set 11 (some (.ref D))) ((11, .ref D) :: (10, .ref t) :: (9, .ref od) :: base8 p) := hσ2.set (by decide)
      refine ⟨.ref D, hσ3.at rfl, D, badM p.n e, rfl, SqL.of hws, List.length_pos_iff.mpr b1, fun mm h1 h2 => ?_⟩
      have em := min_is h1 h2
      rw [b2] at em
      subst em
      have ho2 : H2 od = some (.dT (outOf ((depsM p.n).take i))) := e2.keep _ _ ho1 (fun _ z => nomatch z)
      obtain ⟨hlt, es⟩ := List.getElem?_eq_some_iff.mp he
      have hnd := f_nodup p.n ok.n3
      have hnot : e ∉ (depsM p.n).take i := by
        intro z
        obtain ⟨k, hk, ek⟩ := List.getElem_of_mem z
        rw [List.length_take] at hk
        rw [List.getElem_take] at ek
        exact List.pairwise_iff_getElem.mp hnd k i (by omega) hlt (by omega) (ek.trans es.symm)
      refine ⟨shortM e, 1, rfl, rfl, .ref od, hσ3.at rfl, .ref t, hσ3.at rfl, od, _, rfl, DPut.t (k := keyI e) ho2 (by rw [keyI_V]; exact e2.tup ht1) ?_, ?_, ?_, ?_⟩
      · unfold outOf
        rw [List.length_map, List.length_take]
        have := depsM_len64 p.n ok.n3
        exact szl (by omega)
      · exact hσ3.sub ⟨rfl, rfl, rfl, rfl, rfl, rfl, rfl, rfl, rfl, trivial⟩
      · rw [hid_upd]
        exact e1.trans (e2.hidden od)
      · rw [upd_same, out_put hnot, List.take_succ_eq_append_getElem hlt, es]
  · rintro σ H1 ⟨hσ1, e1, ho1⟩
    refine q _ _ ⟨p, od, ok, hσ1, (hF.ext e1).ext (ext_hid od H1), ?_⟩
    rw [hLS.len, List.take_length] at ho1
    exact ho1
end
end Ft
namespace Ft
open PySem PySem.Spec PyProof.Rows L2
def Q7 (K : PySem.W.Frag) (P1 P2 : Addr) (σ : L2.St) (H : Hp) : Prop := ∃ (p : Pm) (od : Addr) (few : Nat), PmOk p ∧ few ≤ p.n ∧ Has σ ((12, .int (few : Int)) :: (9, .ref od) :: base8 p) ∧ HF K P1 P2 p H ∧ H od = some (.dT (outOf (depsM p.n)))
def Q9 (K : PySem.W.Frag) (P1 P2 : Addr) (σ : L2.St) (H : Hp) : Prop := ∃ (p : Pm) (few : Nat) (ga : Addr) (gs : List V), PmOk p ∧ few ≤ p.n ∧ Has σ ((13, .ref ga) :: (12, .int (few : Int)) :: base8 p) ∧ HF K P1 P2 p H ∧ H ga = some (.lst gs) ∧ LS H gs (goodL p.n (p.m : Int))
section
variable {P : Program} {w : World} {K : PySem.W.Frag} {mg : Str → Option Value} {base : Heap} {P1 P2 : Addr} {f : Addr} {cdv : Value} {A : Around} {outer : List Env} {s : Shared} {H0 : Hp} {E : XK}
theorem law6 (B : Bt mg) (hr : Room 5 (A.deeper (envOfC "law" (defScope sLaw) s.heap.objs.size f cdv))) (CA : Cal P w K mg base 1 "_law_alike" ["_law_found", "_law_due"] spAlike0) (CS : Cal P w K mg base 4 "surest" ["deputies"] (spSurest K P1)) (CC : Cal P w K mg base 4 "least_chain" ["deputies"] (spLeastChain K P1))
    (CL : Cal P w K mg base 1 "_law_chain" ["_law_deputies_here", "_law_person"] (spLawChain K)) : Stp (lawX P w K mg base f cdv A outer s H0 E) (lawSt 6) (Q6 K P1 P2) (Q6 K P1 P2) := by
  have hr1 : Room 1 _ := hr.mono (by decide)
  have hr4 : Room 4 _ := hr.mono (by decide)
  have hu := hu_of hr
  refine ⟨_, ps_if (PW.pt (pw_or (pt_not (pt_val (pe_c CA hr1 (by rfl) (pa_cons (pe_c CS hr4 (by rfl) (pa_cons (pv 3) pa_nil)) (pa_cons (pe_dget hu (pv 9) (pv 3) (fun _ _ => rfl)) pa_nil)))))
    (pw_or1 (pt_not (pt_val (pe_c CA hr1 (by rfl) (pa_cons (pe_c CC hr4 (by rfl) (pa_cons (pv 3) pa_nil)) (pa_cons (pe_callB (cr_min (by rfl)) (by rfl) B.min PyProof.Rows.boot_min (pa_cons
      (pe_lc (own := [("_law_k", 26)]) (g := gName 26) (tt := tYes) (by rfl) scLaw.nd (pi_range1 (by rfl) B.range (pa_cons (pv 2) pa_nil)) (blkOk_by (N := lawN) (sc := defScope sLaw) (by decide +kernel)) (fun _ _ _ _ _ => pg_name (i := 26) scLaw.nd rfl (Or.inl rfl)) (fun _ _ _ _ _ => pts_nil)
        (fun _ _ _ _ _ => pe_callB (call_lenK K) (by rfl) B.len PySem.boot_len (pa_cons (pe_c CL hr1 (by rfl) (pa_cons (pv 3) (pa_cons (pv 26) pa_nil))) pa_nil))) pa_nil)) pa_nil)))))))) (pss_one (ps_ret pe_bl)) pss_nil, fun D σ H h q => ?_⟩
  obtain ⟨p, od, ok, hσ, hF, hod⟩ := h
  refine ⟨.ref p.td, hσ.at rfl, p.td, p.d, rfl, hF.tdT, ok.good, hF.hr.g1, fun H1 e1 => ?_⟩
  have hF1 := hF.ext e1
  have ho1 : H1 od = some (.dT (outOf (depsM p.n))) := e1.keep _ _ hod (fun _ z => nomatch z)
  refine ⟨.ref od, hσ.at rfl, .ref p.td, hσ.at rfl, od, .int (shortM p.d - 1), rfl, ?_, ?_⟩
  · have := DGet.t (k := keyI p.d) ho1 (by rw [keyI_V]; exact hF1.tdS)
    rw [out_get ok.hd] at this
    exact this
  refine ⟨_, rfl, .inl ⟨_, rfl⟩, fun H2 e2 => ⟨true, rfl, iteF ?_⟩⟩
  have hF2 := hF1.ext e2
  refine ⟨.ref p.td, hσ.at rfl, p.td, p.d, rfl, hF2.tdT, ok.good, hF2.hr.g1, fun H3 e3 => ?_⟩
  have hF3 := hF2.ext e3
  refine ⟨.int (p.n : Int), hσ.at rfl, (p.n : Int), rfl, by omega, by have := ok.n3; omega, fun l nl => ?_⟩
  rw [Int.toNat_natCast]
  have n3 := ok.n3
  refine lc_rng (lo := 0) (j := 26) yes (RI fun i : Nat => ((lchM p.d (i : Int)).length : Int)) (RI.mono _) (by omega) nl (fun x => hw1 x) ?_ ?_ ?_
  · exact fun i H' hi e Q2 h2 => h2 H' (Ext.refl H')
  · intro i H' hi e _ _ Q2 h2
    have hσ3 := hσ.blk (j := 26) (x := .int (0 + (i : Int))) rfl (by decide)
    refine ⟨.ref p.td, hσ3.at rfl, .int (0 + (i : Int)), hσ3.at rfl, p.td, p.d, 0 + (i : Int), rfl, (hF3.ext e).tdT, ok.good, by omega, by rw [ok.len]; omega, fun H4 m e4 nm hm => ?_⟩
    refine ⟨m, _, rfl, .inl (SqL.of hm), h2 _ H4 e4 ?_⟩
    show V.int _ = V.int _
    rw [List.length_map, Int.zero_add]
  · intro H' ys e hys hp
    have ey := paired_RI (H := fun k y => hid l H') hp
    rw [filter_yes] at ey
    subst ey
    obtain ⟨c1, c2⟩ := f_chain p.n ok.n3 ok.n1 p.d ok.hd
    have ec : (List.range p.n).map (fun i : Nat => ((lchM p.d (i : Int)).length : Int)) = lcnM p.d := by
      unfold lcnM
      rw [ok.len]
    rw [ec] at hys
    refine ⟨l, lcnM p.d, rfl, SqL.of hys, List.length_pos_iff.mpr c1, fun m h1 h2 => ?_⟩
    have em := min_is h1 h2
    rw [c2] at em
    subst em
    refine ⟨_, rfl, .inl ⟨_, rfl⟩, fun H4 e4 => ⟨true, rfl, iteF (q _ _ ⟨p, od, ok, hσ, (hF3.ext e).ext e4, ?_⟩)⟩⟩
    exact (((e2.trans e3).trans e).trans e4).keep _ _ ho1 (fun _ z => nomatch z)
theorem law7 (hr : Room 5 (A.deeper (envOfC "law" (defScope sLaw) s.heap.objs.size f cdv))) (CT : Cal P w K mg base 1 "_law_taken" ["_law_row", "_law_many"] (spTaken K)) : Stp (lawX P w K mg base f cdv A outer s H0 E) (lawSt 7) (Q6 K P1 P2) (Q7 K P1 P2) := by
  have hr1 : Room 1 _ := hr.mono (by decide)
  refine ⟨_, ps_set (i := 12) scLaw.nd rfl (.inr rfl) (pe_c CT hr1 (by rfl) (pa_cons (pv 1) (pa_cons (pe_op op_add (pv 2) pe_int) pa_nil))), fun D σ H h q => ?_⟩
  obtain ⟨p, od, ok, hσ, hF, hod⟩ := h
  have n3 := ok.n3
  refine ⟨.ref p.r, hσ.at rfl, .int (p.n : Int), hσ.at rfl, (p.n : Int), 1, rfl, rfl, p.r, p.sc, p.ns, (p.n : Int) + 1, rfl, by omega, by omega, hF.hr.row, hF.hr.scr, fun k i1 m1 c1 a1 b1 i10 m10 m11 => ?_⟩
  obtain ⟨_, _, _, eR, _⟩ := hF.hr.row
  have nor : od ≠ p.r := fun z => by
    rw [z, eR] at hod
    cases hod
  refine q _ _ ⟨p, od, k.toNat, ok, by omega, ?_, hF.of (by rw [hid_upd]; exact Ext.refl _) (hF.hr.take i10 m10 m11), by rw [upd_ne nor]; exact hod⟩
  rw [show ((k.toNat : Nat) : Int) = k by omega]
  exact hσ.set (by decide)
end
end Ft
namespace Ft
open PySem PySem.Spec PyProof.Rows L2
def goodI (n : Nat) (m : Int) (i : Nat) : Bool := decide (m ≤ shortM ((depsM n).getD i []) - 1)
theorem good_range (n : Nat) (m : Int) : ((List.range (depsM n).length).filter (goodI n m)).map (fun i => (depsM n).getD i []) = goodL n m := by
  have := range_filter [] (depsM n) (fun e => decide (m ≤ shortM e - 1)) id
  rw [List.map_id] at this
  exact this
section
variable {P : Program} {w : World} {K : PySem.W.Frag} {mg : Str → Option Value} {base : Heap} {P1 P2 : Addr} {f : Addr} {cdv : Value} {A : Around} {outer : List Env} {s : Shared} {H0 : Hp} {E : XK}
theorem law8 (B : Bt mg) (hr : Room 5 (A.deeper (envOfC "law" (defScope sLaw) s.heap.objs.size f cdv))) (CA : Cal P w K mg base 1 "_law_alike" ["_law_found", "_law_due"] spAlike0) (CS : Cal P w K mg base 3 "sure_count" ["size", "many"] spSureCount) : Stp (lawX P w K mg base f cdv A outer s H0 E) (lawSt 8) (Q7 K P1 P2) (Q7 K P1 P2) := by
  have hr1 : Room 1 _ := hr.mono (by decide)
  have hr3 : Room 3 _ := hr.mono (by decide)
  have hu := hu_of hr
  refine ⟨_, ps_if (pt_not (pt_val (pe_c CA hr1 (by rfl) (pa_cons (pe_c CS hr3 (by rfl) (pa_cons (pv 2) (pa_cons (pv 12) pa_nil))) (pa_cons (pe_callB call_len_seq (by rfl) B.len PySem.boot_len (pa_cons
      (pe_lc (own := [("_law_each", 10)]) (g := gName 10) (by rfl) scLaw.nd (pi_list (pv 4)) (blkOk_by (N := lawN) (sc := defScope sLaw) (by decide +kernel)) (fun _ _ _ _ _ => pg_name (i := 10) scLaw.nd rfl (Or.inl rfl))
        (fun _ _ _ _ _ => pts_one (pt_cmpR op_ge (pe_dget hu (pv 9) (pv 10) (fun _ _ => rfl)) (pv 12) (nomark _))) (fun _ _ _ _ _ => pv 10)) pa_nil)) pa_nil))))) (pss_one (ps_ret pe_bl)) pss_nil, fun D σ H h q => ?_⟩
  obtain ⟨p, od, few, ok, hf, hσ, hF, hod⟩ := h
  refine ⟨.int (p.n : Int), hσ.at rfl, .int (few : Int), hσ.at rfl, p.n, few, rfl, ok.n1, ok.n3, hf, fun H1 e1 => ?_⟩
  have hF1 := hF.ext e1
  have ho1 : H1 od = some (.dT (outOf (depsM p.n))) := e1.keep _ _ hod (fun _ z => nomatch z)
  obtain ⟨ys, hle, hLS⟩ := hF1.every
  have hlen : ys.length ≤ 64 := by rw [hLS.len]; exact depsM_len64 p.n ok.n3
  refine ⟨.ref p.le, hσ.at rfl, p.le, rfl, ⟨ys, SqL.of hle⟩, fun D2 nD => ?_⟩
  refine lc_lst (a := p.le) (xs := ys) (j := 10) (goodI p.n (few : Int)) (fun _ _ _ => True) (fun _ _ _ _ _ _ => trivial) (by omega) (SqL.of hle) nD (fun x => hw1 x) ?_ ?_ ?_
  · intro k x H2 hx e2 Q2 h2
    obtain ⟨e, he, t, rfl, ht⟩ := (hLS.mono e2).get hx
    have hσ3 := hσ.blk (j := 10) (x := .ref t) rfl (by decide)
    have hemem : e ∈ depsM p.n := List.mem_of_getElem? he
    refine ⟨.ref od, hσ3.at rfl, .ref t, hσ3.at rfl, od, .int (shortM e - 1), rfl, ?_, .int (few : Int), hσ3.at rfl, shortM e - 1, (few : Int), rfl, rfl, decide ((few : Int) ≤ shortM e - 1), rfl, ?_⟩
    · have := DGet.t (k := keyI e) (e2.keep _ _ ho1 (fun _ z => nomatch z)) (by rw [keyI_V]; exact ht)
      rw [out_get hemem] at this
      exact this
    · have := h2 H2 (Ext.refl H2)
      unfold goodI at this
      rw [getD_of he] at this
      exact this
  · intro k x H2 hx e2 _ _ Q2 h2
    have hσ3 := hσ.blk (j := 10) (x := x) rfl (by decide)
    exact ⟨x, hσ3.at rfl, h2 _ H2 (Ext.refl H2) trivial⟩
  · intro H2 ws e2 hws hp
    have hl := Paired.length hp
    rw [hLS.len] at hl
    have hg := congrArg List.length (good_range p.n (few : Int))
    rw [List.length_map] at hg
    refine ⟨D2, ws, rfl, .inl (SqL.of hws), V.int (sureCM p.n few), ?_, .inl ⟨_, rfl⟩, fun H3 e3 => ⟨true, rfl, iteF (q _ _ ⟨p, od, few, ok, hf, hσ, (hF1.ext e2).ext e3, (e2.trans e3).keep _ _ ho1 (fun _ z => nomatch z)⟩)⟩⟩
    have hs := f_sure p.n ok.n3 ok.n1 few hf
    rw [hs]
    have : ws.length = ((depsM p.n).filter fun e => decide ((few : Int) ≤ shortM e - 1)).length := by
      have h9 : (goodL p.n (few : Int)).length = ((depsM p.n).filter fun e => decide ((few : Int) ≤ shortM e - 1)).length := rfl
      omega
    rw [this]
theorem law9 (B : Bt mg) (hr : Room 5 (A.deeper (envOfC "law" (defScope sLaw) s.heap.objs.size f cdv))) : Stp (lawX P w K mg base f cdv A outer s H0 E) (lawSt 9) (Q7 K P1 P2) (Q9 K P1 P2) := by
  have hu := hu_of hr
  refine ⟨_, ps_setLc (i := 13) (own := [("_law_each", 10)]) (g := gName 10) (by rfl) scLaw.nd rfl rfl (sw_true rfl rfl rfl (by decide +kernel)) (pi_list (pv 4)) (blkOk_by (N := lawN) (sc := defScope sLaw) (by decide +kernel)) (fun _ _ _ _ _ => pg_name (i := 10) scLaw.nd rfl (Or.inl rfl))
        (fun _ _ _ _ _ => pts_one (pt_cmpR op_ge (pe_dget hu (pv 9) (pv 10) (fun _ _ => rfl)) (pv 6) (nomark _))) (fun _ _ _ _ _ => pv 10), fun D σ H h q => ?_⟩
  obtain ⟨p, od, few, ok, hf, hσ, hF, ho1⟩ := h
  obtain ⟨ys, hle, hLS⟩ := hF.every
  have hlen : ys.length ≤ 64 := by rw [hLS.len]; exact depsM_len64 p.n ok.n3
  refine ⟨.ref p.le, hσ.at rfl, p.le, rfl, ⟨ys, SqL.of hle⟩, fun D2 nD => ?_⟩
  refine lc_lst (a := p.le) (xs := ys) (j := 10) (goodI p.n (p.m : Int)) (RS fun i => (depsM p.n).getD i []) (RS.mono _) (by omega) (SqL.of hle) nD (fun x => hw1 x) ?_ ?_ ?_
  · intro k x H2 hx e2 Q2 h2
    obtain ⟨e, he, t, rfl, ht⟩ := (hLS.mono e2).get hx
    have hσ3 := hσ.blk (j := 10) (x := .ref t) rfl (by decide)
    have hemem : e ∈ depsM p.n := List.mem_of_getElem? he
    refine ⟨.ref od, hσ3.at rfl, .ref t, hσ3.at rfl, od, .int (shortM e - 1), rfl, ?_, .int (p.m : Int), hσ3.at rfl, shortM e - 1, (p.m : Int), rfl, rfl, decide ((p.m : Int) ≤ shortM e - 1), rfl, ?_⟩
    · have := DGet.t (k := keyI e) (e2.keep _ _ ho1 (fun _ z => nomatch z)) (by rw [keyI_V]; exact ht)
      rw [out_get hemem] at this
      exact this
    · have := h2 H2 (Ext.refl H2)
      unfold goodI at this
      rw [getD_of he] at this
      exact this
  · intro k x H2 hx e2 hacc _ Q2 h2
    obtain ⟨e, he, hTS⟩ := (hLS.mono e2).get hx
    obtain ⟨acc, hacc⟩ := hacc
    have hσ3 := hσ.blk (j := 10) (x := x) rfl (by decide)
    refine ⟨x, hσ3.at rfl, h2 _ H2 (Ext.refl H2) ?_⟩
    show TS (hid D2 H2) x ((depsM p.n).getD k [])
    rw [getD_of he]
    exact hTS.hidden hacc
  · intro H2 ws e2 hws hp
    have hw := paired_RS hp
    rw [hLS.len, good_range] at hw
    exact q _ _ ⟨p, few, D2, ws, ok, hf, ((hσ.set (j := 13) (v := .ref D2) (by decide)).sub ⟨rfl, rfl, rfl, rfl, rfl, rfl, rfl, rfl, rfl, rfl, trivial⟩), hF.ext e2, hws, hw.mono (ext_hid D2 H2)⟩
end
end Ft
namespace Ft
open PySem PySem.Spec PyProof.Rows L2
def Q10 (K : PySem.W.Frag) (P1 P2 : Addr) (σ : L2.St) (H : Hp) : Prop := ∃ (p : Pm) (few : Nat) (ga ca : Addr) (gs : List V), PmOk p ∧ few ≤ p.n ∧ Has σ ((14, .ref ca) :: (13, .ref ga) :: (12, .int (few : Int)) :: base8 p) ∧ HF K P1 P2 p H ∧ H ga = some (.lst gs) ∧ LS H gs (goodL p.n (p.m : Int)) ∧ H ca = some (.lst ((chgM p.n p.d (p.m : Int)).map V.int))
theorem goodL_sub {n : Nat} {m : Int} {e : List Int} (h : e ∈ goodL n m) : e ∈ depsM n := (List.mem_filter.mp h).1
theorem goodL_len {n : Nat} {m : Int} (h : n ≤ 3) : (goodL n m).length ≤ 64 := Nat.le_trans (List.length_filter_le _ _) (depsM_len64 n h)
def scpEach : Scope := { kind := .function, names := [(".0", .local), ("_law_each", .cell), ("len", .globalImplicit), ("range", .globalImplicit), ("_law_deputies_here", .cell), ("_law_size", .cell)], isGenerator := false, isCoroutine := false, more := [] }
section
variable {P : Program} {w : World} {K : PySem.W.Frag} {mg : Str → Option Value} {base : Heap} {P1 P2 : Addr} {f : Addr} {cdv : Value} {A : Around} {outer : List Env} {s : Shared} {H0 : Hp} {E : XK}
theorem law10 (B : Bt mg) : Stp (lawX P w K mg base f cdv A outer s H0 E) (lawSt 10) (Q9 K P1 P2) (Q10 K P1 P2) := by
  refine ⟨_, ps_setLc (i := 14) (own := [("_law_each", 10)]) (g := gName 10) (tt := tYes) (by rfl) scLaw.nd rfl rfl (sw_true rfl rfl rfl (by decide +kernel)) (pi_list (pv 13)) (blkOk_by (N := lawN) (sc := defScope sLaw) (by decide +kernel)) (fun _ _ _ _ _ => pg_name (i := 10) scLaw.nd rfl (Or.inr rfl))
        (fun _ _ _ _ _ => pts_nil) (fun _ _ _ _ _ => pe_callB (call_lenK K) (by rfl) B.len PySem.boot_len (pa_cons
          (pe_lc (own := [("_law_k", 26)]) (g := gName 26) (by rfl) scLaw.nd (pi_range1 (by rfl) B.range (pa_cons (pv 2) pa_nil)) (blkOk_by (N := lawN) (sc := scpEach) (by decide +kernel)) (fun _ _ _ _ _ => pg_name (i := 26) scLaw.nd rfl (Or.inl rfl))
            (fun _ _ _ _ _ => pts_one (pt_cmpR op_ne (pe_ix (ix_tupK K) (pv 10) (pv 26) (fun _ _ => rfl)) (pe_ix (ix_tupK K) (pv 3) (pv 26) (fun _ _ => rfl)) (nomark _))) (fun _ _ _ _ _ => pv 26)) pa_nil)), fun D σ H h q => ?_⟩
  obtain ⟨p, few, ga, gs, ok, hf, hσ, hF, hga, hLS⟩ := h
  have hlen : gs.length ≤ 64 := by rw [hLS.len]; exact goodL_len ok.n3
  have n3 := ok.n3
  refine ⟨.ref ga, hσ.at rfl, ga, rfl, ⟨gs, SqL.of hga⟩, fun D1 nD => ?_⟩
  refine lc_lst (a := ga) (xs := gs) (j := 10) yes (RI fun i => unlM ((goodL p.n (p.m : Int)).getD i []) p.d) (RI.mono _) (by omega) (SqL.of hga) nD (fun x => hw1 x) ?_ ?_ ?_
  · exact fun i x H' hx e Q2 h2 => h2 H' (Ext.refl H')
  · intro k x H2 hx e2 _ _ Q2 h2
    obtain ⟨e, he, t, rfl, ht⟩ := (hLS.mono e2).get hx
    have hσ3 := hσ.blk (j := 10) (x := .ref t) rfl (by decide)
    have hel : e.length = p.n := f_len p.n ok.n3 e (goodL_sub (List.mem_of_getElem? he))
    refine ⟨.int (p.n : Int), hσ3.at rfl, (p.n : Int), rfl, by omega, by omega, fun l nl => ?_⟩
    rw [Int.toNat_natCast]
    refine lc_rng (lo := 0) (j := 26) (fun i => !decide (e.getD i 0 = p.d.getD i 0)) (fun _ _ _ => True) (fun _ _ _ _ _ _ => trivial) (by omega) nl (fun x => hw1 x) ?_ ?_ ?_
    · intro i H3 hi e3 Q3 h3
      have hσ4 := hσ3.blk (j := 26) (x := .int (0 + (i : Int))) rfl (by decide)
      have e23 := e2.trans e3
      have hge : e[i]? = some (e.getD i 0) := by rw [List.getD_eq_getElem?_getD, List.getElem?_eq_getElem (by omega)]; rfl
      have hgd : p.d[i]? = some (p.d.getD i 0) := by rw [List.getD_eq_getElem?_getD, List.getElem?_eq_getElem (by rw [ok.len]; exact hi)]; rfl
      refine ⟨.ref t, hσ4.at rfl, .int (0 + (i : Int)), hσ4.at rfl, t, e.map V.int, (0 + (i : Int)), .int (e.getD i 0), rfl, rfl, SqT.of (e3.tup ht), ?_, .ref p.td, hσ4.at rfl, .int (0 + (i : Int)), hσ4.at rfl, p.td, p.d.map V.int, (0 + (i : Int)), .int (p.d.getD i 0), rfl, rfl, (hF.ext e23).tdT, ?_, ?_⟩
      · rw [Int.zero_add]
        exact atI_nat (map_get hge)
      · rw [Int.zero_add]
        exact atI_nat (map_get hgd)
      · refine ⟨rfl, !decide (e.getD i 0 = p.d.getD i 0), ?_, h3 H3 (Ext.refl H3)⟩
        rw [dec_i]
    · intro i H3 hi e3 _ _ Q3 h3
      have hσ4 := hσ3.blk (j := 26) (x := .int (0 + (i : Int))) rfl (by decide)
      exact ⟨.int (0 + (i : Int)), hσ4.at rfl, h3 _ H3 (Ext.refl H3) trivial⟩
    · intro H3 ws e3 hws hp
      have hl := Paired.length hp
      refine ⟨l, ws, rfl, .inl (SqL.of hws), h2 _ H3 e3 ?_⟩
      show V.int _ = V.int (unlM ((goodL p.n (p.m : Int)).getD k []) p.d)
      rw [getD_of he]
      unfold unlM
      rw [hel, hl]
  · intro H2 ws e2 hws hp
    have ew := paired_RI (H := fun k y => hid D1 H2) hp
    rw [filter_yes, hLS.len] at ew
    have er : (List.range (goodL p.n (p.m : Int)).length).map (fun i => unlM ((goodL p.n (p.m : Int)).getD i []) p.d) = chgM p.n p.d (p.m : Int) := by
      have := range_filter [] (goodL p.n (p.m : Int)) (fun _ => true) (fun e => unlM e p.d)
      rw [List.filter_eq_self.mpr (fun _ _ => rfl), List.filter_eq_self.mpr (fun _ _ => rfl)] at this
      exact this
    rw [er] at ew
    subst ew
    exact q _ _ ⟨p, few, ga, D1, gs, ok, hf, hσ.set (by decide), hF.ext e2, e2.lst hga, hLS.mono e2, hws⟩
end
end Ft
namespace Ft
open PySem PySem.Spec PyProof.Rows L2
/-! ### data of the good ones -/
theorem eqvAll_ints : ∀ x y : List Int, PyData.eqvAll (x.map .int) (y.map .int) = decide (x = y)
  | [], [] => by simp [PyData.eqvAll]
  | [], _ :: _ => by simp [PyData.eqvAll]
  | _ :: _, [] => by simp [PyData.eqvAll]
  | a :: x, b :: y => by
    rw [List.map_cons, List.map_cons, PyData.eqvAll, eqvAll_ints x y, PyData.eqv]
    by_cases h : a = b
    · subst h
      simp
    · simp [h]
theorem eqv_tupD (x y : List Int) : PyData.eqv (tupD x) (tupD y) = decide (x = y) := by
  unfold tupD
  rw [PyData.eqv]
  exact eqvAll_ints x y
theorem LT.dp {K : PySem.W.Frag} {H : Hp} : ∀ {ys : List V} {L : List (List Int)}, LT K H ys L → DpAll K H ys (L.map tupD)
  | _, _, .nil => .nil
  | _, _, .cons h t => .cons (TI.dp h) (LT.dp t)
theorem sh_good : ∀ n ≤ 3, ∀ m ≤ 3, SeqAt.shaped (.list ((goodL n (m : Nat)).map tupD)) = true := by decide +kernel
theorem sh_deps : ∀ n ≤ 3, ∀ e ∈ depsM n, SeqAt.shaped (tupD e) = true := by decide +kernel
theorem sh_nil : SeqAt.shaped (.list []) = true := by decide +kernel
theorem sh_tnil : SeqAt.shaped (tupD []) = true := by decide +kernel
theorem eqv_nil (L : List (List Int)) : PyData.eqv (.list (L.map tupD)) (.list []) = L.isEmpty := by
  cases L with
  | nil => simp [PyData.eqv, PyData.eqvAll]
  | cons x r => simp [PyData.eqv, PyData.eqvAll]
def bestV (p : Pm) : V := if goodL p.n (p.m : Int) = [] then .non else .int (minL (chgM p.n p.d (p.m : Int)))
structure QG (K : PySem.W.Frag) (P1 P2 : Addr) (p : Pm) (ga ca : Addr) (gs : List V) (fv : V) (H : Hp) : Prop where
  hf : HF K P1 P2 p H
  ga : H ga = some (.lst gs)
  gl : LS H gs (goodL p.n (p.m : Int))
  ca : H ca = some (.lst ((chgM p.n p.d (p.m : Int)).map V.int))
  fv : PO K H fv (fewM p.d (p.m : Int))
theorem QG.ext {K : PySem.W.Frag} {P1 P2 : Addr} {p : Pm} {ga ca : Addr} {gs : List V} {fv : V} {H H' : Hp} (h : QG K P1 P2 p ga ca gs fv H) (e : Ext H H') : QG K P1 P2 p ga ca gs fv H' :=
  ⟨h.hf.ext e, e.lst h.ga, h.gl.mono e, e.lst h.ca, h.fv.mono e⟩
def base6 (p : Pm) (few : Nat) (ga ca : Addr) (fv : V) : List (Nat × V) := (16, fv) :: (15, bestV p) :: (14, .ref ca) :: (13, .ref ga) :: (12, .int (few : Int)) :: base8 p
def Q11 (K : PySem.W.Frag) (P1 P2 : Addr) (σ : L2.St) (H : Hp) : Prop := ∃ (p : Pm) (few : Nat) (ga ca : Addr) (gs : List V) (fv : V), PmOk p ∧ few ≤ p.n ∧ Has σ (base6 p few ga ca fv) ∧ QG K P1 P2 p ga ca gs fv H
def lastL (p : Pm) : List Int := match fewM p.d (p.m : Int) with
  | none => p.d
  | some (_, x) => x
def Q14 (K : PySem.W.Frag) (P1 P2 : Addr) (σ : L2.St) (H : Hp) : Prop := ∃ (p : Pm) (few : Nat) (ga ca : Addr) (gs : List V) (fv lv : V), PmOk p ∧ few ≤ p.n ∧ Has σ ((17, lv) :: base6 p few ga ca fv) ∧ QG K P1 P2 p ga ca gs fv H ∧ TI K H lv (lastL p)
/-- what fewest_sure gives -/
theorem few_none {p : Pm} (ok : PmOk p) (h : fewM p.d (p.m : Int) = none) : goodL p.n (p.m : Int) = [] := by
  have := f_few p.n ok.n3 ok.n1 p.d ok.hd p.m ok.m3
  unfold few_ok at this
  rw [h] at this
  exact List.isEmpty_iff.mp this
theorem few_some {p : Pm} (ok : PmOk p) {c : Int} {x : List Int} (h : fewM p.d (p.m : Int) = some (c, x)) : goodL p.n (p.m : Int) ≠ [] ∧ bestV p = .int c ∧ x ∈ goodL p.n (p.m : Int) ∧ unlM x p.d = c ∧ c ≤ 3 := by
  have := f_few p.n ok.n3 ok.n1 p.d ok.hd p.m ok.m3
  unfold few_ok at this
  rw [h] at this
  simp only [Bool.and_eq_true, decide_eq_true_eq, Bool.not_eq_true', List.isEmpty_eq_false_iff] at this
  obtain ⟨⟨⟨⟨h1, h2⟩, h3⟩, h4⟩, h5⟩ := this
  refine ⟨h1, ?_, h3, h4, h5⟩
  unfold bestV
  rw [if_neg h1, h2]
section
variable {P : Program} {w : World} {K : PySem.W.Frag} {mg : Str → Option Value} {base : Heap} {P1 P2 : Addr} {f : Addr} {cdv : Value} {A : Around} {outer : List Env} {s : Shared} {H0 : Hp} {E : XK}
theorem law11 (B : Bt mg) (hr : Room 5 (A.deeper (envOfC "law" (defScope sLaw) s.heap.objs.size f cdv))) (CF : Cal P w K mg base 5 "fewest_sure" ["deputies", "many"] (spFewestSure K P1)) : Stp (lawX P w K mg base f cdv A outer s H0 E) (lawSt 11) (Q10 K P1 P2) (Q11 K P1 P2) := by
  refine ⟨_, ps_asg (pe_tup (pa_cons (pe_ifExp (pt_cmpR (op_neD hr.units) (pv 13) (pe_lst pa_nil) (nomark _)) (pe_callB (cr_min (by rfl)) (by rfl) B.min PyProof.Rows.boot_min (pa_cons (pv 14) pa_nil)) pe_non) (pa_cons (pe_c CF hr (by rfl) (pa_cons (pv 3) (pa_cons (pv 6) pa_nil))) pa_nil)))
    (pg_tupK (n := 2) K (by rfl) (pgs_cons (pg_name (i := 15) scLaw.nd rfl (.inr rfl)) (pgs_cons (pg_name (i := 16) scLaw.nd rfl (.inl rfl)) pgs_nil))), fun D σ H h q => ?_⟩
  obtain ⟨p, few, ga, ca, gs, ok, hf, hσ, hF, hga, hLS, hca⟩ := h
  refine ⟨.ref ga, hσ.at rfl, Nat.zero_le _, fun l nl => ?_⟩
  have e1 : Ext H (upd H l (.lst [])) := Ext.new nl
  refine ⟨_, _, .lst (SqL.of (e1.lst hga)) (LT.dp (LS.lt (hLS.mono e1))), .lst (SqL.of upd_same) .nil, sh_good p.n ok.n3 p.m ok.m3, sh_nil, !(goodL p.n (p.m : Int)).isEmpty, by rw [eqv_nil], ?_⟩
  have fin : ∀ H1, Ext H H1 → tCons (tCl (spFewestSure K P1) (tCons (tVar 3) (tCons (tVar 6) tNil))) tNil σ H1 (fun vs H2 => (bestV p :: vs).length ≤ sizeLine ∧ ∀ T, H2 T = none → gTup K 2 (gCons (gName 15) (gCons (gName 16) gNil)) (.ref T) σ (upd H2 T (.tup (bestV p :: vs))) D.nx) := by
    intro H1 e
    refine ⟨.ref p.td, hσ.at rfl, .int (p.m : Int), hσ.at rfl, p.td, p.d, (p.m : Int), rfl, (hF.ext e).tdT, ok.good, by omega, by have := ok.m3; omega, (hF.ext e).hr.g1, fun H3 v e3 hv => ?_⟩
    refine ⟨by show 2 ≤ sizeLine; decide, fun T nT => ⟨T, _, rfl, SqT.of upd_same, rfl, bestV p, _, rfl, v, _, rfl, rfl, ?_⟩⟩
    have e4 := (e.trans e3).trans (Ext.new (o := .tup [bestV p, v]) nT)
    exact q _ _ ⟨p, few, ga, ca, gs, v, ok, hf, (hσ.set (j := 15) (by decide)).set (j := 16) (by decide), hF.ext e4, e4.lst hga, hLS.mono e4, e4.lst hca, hv.mono (Ext.new nT)⟩
  cases hg : (goodL p.n (p.m : Int)).isEmpty with
  | true =>
    have hn : goodL p.n (p.m : Int) = [] := List.isEmpty_iff.mp hg
    have hb : bestV p = .non := by unfold bestV; rw [if_pos hn]
    rw [hb] at fin
    exact iteF (fin _ e1)
  | false =>
    have hn : goodL p.n (p.m : Int) ≠ [] := List.isEmpty_eq_false_iff.mp hg
    refine iteT ⟨.ref ca, hσ.at rfl, ca, chgM p.n p.d (p.m : Int), rfl, SqL.of (e1.lst hca), ?_, fun mm h1 h2 => ?_⟩
    · unfold chgM
      rw [List.length_map]
      exact List.length_pos_iff.mpr hn
    · rw [min_is h1 h2]
      have hb : bestV p = .int (minL (chgM p.n p.d (p.m : Int))) := by unfold bestV; rw [if_neg hn]
      rw [hb] at fin
      exact fin _ e1
end
end Ft
namespace Ft
open PySem PySem.Spec PyProof.Rows L2
theorem any_tupD (L : List (List Int)) (x : List Int) : ((L.map tupD).any fun z => PyData.eqv z (tupD x)) = decide (x ∈ L) := by
  rw [Bool.eq_iff_iff, List.any_eq_true, decide_eq_true_eq]
  constructor
  · rintro ⟨z, hz, h⟩
    obtain ⟨y, hy, rfl⟩ := List.mem_map.mp hz
    rw [eqv_tupD, decide_eq_true_eq] at h
    rw [← h]
    exact hy
  · intro h
    exact ⟨tupD x, List.mem_map.mpr ⟨x, h, rfl⟩, by rw [eqv_tupD]; simp⟩
theorem first_idx : ∀ {L : List (List Int)} {x : List Int}, x ∈ L → ∃ j : Nat, L[j]? = some x ∧ ∀ (k : Nat) (z : List Int), k < j → L[k]? = some z → z ≠ x
  | [], _, h => by cases h
  | y :: r, x, h => by
    by_cases hy : y = x
    · exact ⟨0, by rw [hy]; rfl, fun k z hk => absurd hk (Nat.not_lt_zero _)⟩
    · have hr : x ∈ r := by
        rcases List.mem_cons.mp h with z | z
        · exact absurd z.symm hy
        · exact z
      obtain ⟨j, h1, h2⟩ := first_idx hr
      refine ⟨j + 1, h1, fun k z hk hz => ?_⟩
      cases k with
      | zero =>
        cases hz
        exact hy
      | succ k => exact h2 k z (by omega) hz
/-- good.index(x), then changes at it -/
theorem idx_rd {K : PySem.W.Frag} {P1 P2 : Addr} {p : Pm} {ga ca : Addr} {gs : List V} {fv v : V} {H : Hp} {x : List Int} {Q : VK} (ok : PmOk p) (h : QG K P1 P2 p ga ca gs fv H) (hx : x ∈ goodL p.n (p.m : Int)) (hv : TI K H v x)
    (q : ∀ j : Nat, (chgM p.n p.d (p.m : Int))[j]? = some (unlM x p.d) → Q (.int (j : Nat)) H) : rIndexD K (.ref ga) [v] H Q := by
  obtain ⟨j, h1, h2⟩ := first_idx hx
  refine ⟨ga, v, tupD x, (goodL p.n (p.m : Int)).map tupD, j, tupD x, rfl, rfl, .lst (SqL.of h.ga) (LT.dp (LS.lt h.gl)), TI.dp hv, sh_good p.n ok.n3 p.m ok.m3, sh_deps p.n ok.n3 x (goodL_sub hx), ?_, ?_, ?_, q j ?_⟩
  · rw [List.getElem?_map, h1] <;> rfl
  · rw [eqv_tupD]
    simp
  · intro k z hk hz
    rw [List.getElem?_map] at hz
    cases e : (goodL p.n (p.m : Int))[k]? with
    | none =>
      rw [e] at hz
      cases hz
    | some y =>
      rw [e] at hz
      cases hz
      rw [eqv_tupD, decide_eq_false (h2 k y hk e)]
  · unfold chgM
    rw [List.getElem?_map, h1] <;> rfl
section
variable {P : Program} {w : World} {K : PySem.W.Frag} {mg : Str → Option Value} {base : Heap} {P1 P2 : Addr} {f : Addr} {cdv : Value} {A : Around} {outer : List Env} {s : Shared} {H0 : Hp} {E : XK}
theorem fv_non {p : Pm} {H : Hp} {fv : V} (ok : PmOk p) (h : PO K H fv (fewM p.d (p.m : Int))) : decide (fv = .non) = (goodL p.n (p.m : Int)).isEmpty := by
  cases e : fewM p.d (p.m : Int) with
  | none =>
    rw [e] at h
    obtain rfl : fv = .non := h
    rw [few_none ok e]
    rfl
  | some y =>
    obtain ⟨c, x⟩ := y
    rw [e] at h
    obtain ⟨pb, tb, rfl, _⟩ := h
    rw [decide_eq_false (fun z => nomatch z), List.isEmpty_eq_false_iff.mpr (few_some ok e).1]
theorem law12 (hr : Room 5 (A.deeper (envOfC "law" (defScope sLaw) s.heap.objs.size f cdv))) : Stp (lawX P w K mg base f cdv A outer s H0 E) (lawSt 12) (Q11 K P1 P2) (Q11 K P1 P2) := by
  refine ⟨_, ps_if (pt_cmpR op_ne (pe_cmp (pc_isN (pv 16)) rfl) (pe_cmpR (op_eqD hr.units) (pv 13) (pe_lst pa_nil) (nomark _)) (nomark _)) (pss_one (ps_ret pe_bl)) pss_nil, fun D σ H h q => ?_⟩
  obtain ⟨p, few, ga, ca, gs, fv, ok, hf, hσ, hG⟩ := h
  refine ⟨fv, hσ.at rfl, .ref ga, hσ.at rfl, Nat.zero_le _, fun l nl => ?_⟩
  have e1 : Ext H (upd H l (.lst [])) := Ext.new nl
  have hG1 := hG.ext e1
  refine ⟨_, _, .lst (SqL.of hG1.ga) (LT.dp (LS.lt hG1.gl)), .lst (SqL.of upd_same) .nil, sh_good p.n ok.n3 p.m ok.m3, sh_nil, rfl, false, ?_, iteF (q _ _ ⟨p, few, ga, ca, gs, fv, ok, hf, hσ, hG1⟩)⟩
  rw [eqv_nil, fv_non ok hG.fv, decide_eq_true rfl]
  rfl
theorem law13 (hr : Room 5 (A.deeper (envOfC "law" (defScope sLaw) s.heap.objs.size f cdv))) : Stp (lawX P w K mg base f cdv A outer s H0 E) (lawSt 13) (Q11 K P1 P2) (Q11 K P1 P2) := by
  have hu65 : (A.deeper (envOfC "law" (defScope sLaw) s.heap.objs.size f cdv)).units + 65 < cLine := by have := hr.un; omega
  refine ⟨_, ps_if (PW.pt (pw_and (pt_cmp (pc_notN (pv 16)) rfl) (pw_and1 (PW.pt (pw_or (pt_cmpR op_ne (pe_ix ix_tup (pv 16) pe_int (fun _ _ => rfl)) (pv 15) (nomark _))
    (pw_or (pt_cmpR (op_notInD hu65) (pe_ix ix_tup (pv 16) pe_int (fun _ _ => rfl)) (pv 13) (by rfl))
    (pw_or1 (pt_cmpR op_ne (pe_ix ix_list (pv 14) (pe_bm PySem.F.plainAttrs_list PySem.F.slot_list_index PySem.F.type_list_index (mt_indexD hu65) (pv 13) (pa_cons (pe_ix ix_tup (pv 16) pe_int (fun _ _ => rfl)) pa_nil)) (fun _ _ => rfl)) (pv 15) (nomark _))))))))) (pss_one (ps_ret pe_bl)) pss_nil, fun D σ H h q => ?_⟩
  obtain ⟨p, few, ga, ca, gs, fv, ok, hf, hσ, hG⟩ := h
  have hfv := hG.fv
  cases e : fewM p.d (p.m : Int) with
  | none =>
    rw [e] at hfv
    obtain rfl : fv = .non := hfv
    exact ⟨.non, hσ.at rfl, false, rfl, iteF (iteF (q _ _ ⟨p, few, ga, ca, gs, _, ok, hf, hσ, hG⟩))⟩
  | some y =>
    obtain ⟨c, x⟩ := y
    rw [e] at hfv
    obtain ⟨pb, tb, rfl, hb1, hb2⟩ := hfv
    obtain ⟨g1, g2, g3, g4, g5⟩ := few_some ok e
    have h15 : σ[15]? = some (some (V.int c)) := by rw [← g2]; exact hσ.at rfl
    have nb : (!decide (V.ref pb = V.non)) = true := by rw [decide_eq_false (fun z => nomatch z)]; rfl
    have nc : (!decide (V.int c = V.int c)) = false := by rw [decide_eq_true rfl]; rfl
    refine ⟨.ref pb, hσ.at rfl, true, congrArg V.bl nb, iteT ?_⟩
    refine ⟨.ref pb, hσ.at rfl, pb, _, 0, .int c, rfl, rfl, hb1, atI_nat (j := 0) rfl, .int c, h15, rfl, false, congrArg V.bl nc, iteF ?_⟩
    refine ⟨.ref pb, hσ.at rfl, pb, _, 1, .ref tb, rfl, rfl, hb1, atI_nat (j := 1) rfl, .ref ga, hσ.at rfl, tupD x, (goodL p.n (p.m : Int)).map tupD, TI.dp ⟨tb, rfl, hb2⟩, .lst (SqL.of hG.ga) (LT.dp (LS.lt hG.gl)), sh_deps p.n ok.n3 x (goodL_sub g3), sh_good p.n ok.n3 p.m ok.m3, false, ?_, iteF ?_⟩
    · rw [any_tupD, decide_eq_true g3]
      rfl
    refine ⟨.ref ca, hσ.at rfl, .ref ga, hσ.at rfl, .inl ⟨rfl, _, SqL.of hG.ga⟩, .ref pb, hσ.at rfl, pb, _, 1, .ref tb, rfl, rfl, hb1, atI_nat (j := 1) rfl, ?_⟩
    dsimp only [tNil]
    refine idx_rd ok hG g3 ⟨tb, rfl, hb2⟩ fun j hj => ?_
    rw [g4] at hj
    exact ⟨ca, _, (j : Int), .int c, rfl, rfl, SqL.of hG.ca, atI_nat (map_get hj), .int c, h15, rfl, false, congrArg V.bl nc, iteF (q _ _ ⟨p, few, ga, ca, gs, _, ok, hf, hσ, hG⟩)⟩
theorem law14 : Stp (lawX P w K mg base f cdv A outer s H0 E) (lawSt 14) (Q11 K P1 P2) (Q14 K P1 P2) := by
  refine ⟨_, ps_set (i := 17) scLaw.nd rfl (.inl rfl) (pe_ifExp (pt_cmp (pc_notN (pv 16)) rfl) (pe_ix ix_tup (pv 16) pe_int (fun _ _ => rfl)) (pv 3)), fun D σ H h q => ?_⟩
  obtain ⟨p, few, ga, ca, gs, fv, ok, hf, hσ, hG⟩ := h
  have hfv := hG.fv
  cases e : fewM p.d (p.m : Int) with
  | none =>
    rw [e] at hfv
    obtain rfl : fv = .non := hfv
    refine ⟨.non, hσ.at rfl, false, rfl, iteF ⟨.ref p.td, hσ.at rfl, q _ _ ⟨p, few, ga, ca, gs, _, _, ok, hf, hσ.set (by decide), hG, ?_⟩⟩⟩
    unfold lastL
    rw [e]
    exact ⟨p.td, rfl, hG.hf.tdT⟩
  | some y =>
    obtain ⟨c, x⟩ := y
    rw [e] at hfv
    obtain ⟨pb, tb, rfl, hb1, hb2⟩ := hfv
    have nb : (!decide (V.ref pb = V.non)) = true := by rw [decide_eq_false (fun z => nomatch z)]; rfl
    refine ⟨.ref pb, hσ.at rfl, true, congrArg V.bl nb, iteT ⟨.ref pb, hσ.at rfl, pb, _, 1, .ref tb, rfl, rfl, hb1, atI_nat (j := 1) rfl, q _ _ ⟨p, few, ga, ca, gs, _, _, ok, hf, hσ.set (by decide), hG, ?_⟩⟩⟩
    unfold lastL
    rw [e]
    exact ⟨tb, rfl, hb2⟩
end
end Ft
namespace Ft
open PySem PySem.Spec PyProof.Rows L2
/-! ### the loop over the values: a turn's three statements -/
def StpI (ι : Type) (X : Cx) (st : Stmt) (Pre Post : ι → L2.St → Hp → Prop) : Prop := ∃ t, PS X st t ∧ ∀ (i : ι) D σ H, Pre i σ H → (∀ σ' H', Post i σ' H' → D.nx σ' H') → t D σ H
structure Tn where
  p : Pm
  few : Nat
  ga : Addr
  ca : Addr
  gs : List V
  fv : V
  lv : V
  v : V
  r : Bool
  H1 : Hp
def turnL (x : Tn) : List (Nat × V) := (18, x.v) :: (17, x.lv) :: base6 x.p x.few x.ga x.ca x.fv
structure TurnF (K : PySem.W.Frag) (P1 P2 : Addr) (x : Tn) (H : Hp) : Prop where
  ok : PmOk x.p
  qg : QG K P1 P2 x.p x.ga x.ca x.gs x.fv H
  sv : ShowV K H x.p.d (x.p.m : Int) x.v x.r
  ext : Ext x.H1 H
theorem TurnF.go {K : PySem.W.Frag} {P1 P2 : Addr} {x : Tn} {H H' : Hp} (h : TurnF K P1 P2 x H) (e : Ext H H') : TurnF K P1 P2 x H' := ⟨h.ok, h.qg.ext e, h.sv.mono e, h.ext.trans e⟩
/-- the first due -/
def Due1 (K : PySem.W.Frag) (x : Tn) (H : Hp) (b : Bool) : Prop := (fewM x.p.d (x.p.m : Int) = none ∧ b = decide (x.v = .non)) ∨ ∃ c y, fewM x.p.d (x.p.m : Int) = some (c, y) ∧
  ((b = false ∧ x.r = false) ∨ (∃ c' l xs p, x.v = .ref p ∧ SqT K H p [.int c', .ref l] ∧ SqL K H l xs ∧ x.r = false ∧ b = true) ∨ (∃ ns, PairI K H x.v (c, ns) ∧ (ns = [] ∨ (GoodD ns ∧ ns.length = x.p.d.length)) ∧ x.r = showT x.p.d (x.p.m : Int) c c ns ∧ b = true))
def TA (K : PySem.W.Frag) (P1 P2 : Addr) (x : Tn) (σ : L2.St) (H : Hp) : Prop := Has σ (turnL x) ∧ TurnF K P1 P2 x H
def TB (K : PySem.W.Frag) (P1 P2 : Addr) (x : Tn) (σ : L2.St) (H : Hp) : Prop := ∃ b, Has σ ((19, .bl b) :: turnL x) ∧ TurnF K P1 P2 x H ∧ Due1 K x H b
def TC (K : PySem.W.Frag) (P1 P2 : Addr) (x : Tn) (σ : L2.St) (H : Hp) : Prop := Has σ ((19, .bl x.r) :: turnL x) ∧ TurnF K P1 P2 x H
def TD (K : PySem.W.Frag) (P1 P2 : Addr) (x : Tn) (σ : L2.St) (H : Hp) : Prop := Has σ (turnL x) ∧ Ext x.H1 H
abbrev lawTn (j : Nat) : Stmt := match lawSt 15 with
  | .For _ _ body _ _ => body.getD j (.Pass ⟨0, 0, 0, 0⟩)
  | _ => .Pass ⟨0, 0, 0, 0⟩
section
variable {P : Program} {w : World} {K : PySem.W.Frag} {mg : Str → Option Value} {base : Heap} {P1 P2 : Addr} {f : Addr} {cdv : Value} {A : Around} {outer : List Env} {s : Shared} {H0 : Hp} {E : XK}
theorem turn2 (hr : Room 5 (A.deeper (envOfC "law" (defScope sLaw) s.heap.objs.size f cdv))) (CA : Cal P w K mg base 1 "_law_alike" ["_law_found", "_law_due"] spAlike0) (CS : Cal P w K mg base 5 "shows_fewest_sure" ["deputies", "many", "value"] (spShows K P1)) :
    StpI Tn (lawX P w K mg base f cdv A outer s H0 E) (lawTn 2) (TC K P1 P2) (TD K P1 P2) := by
  have hr1 : Room 1 _ := hr.mono (by decide)
  refine ⟨_, ps_if (pt_not (pt_val (pe_c CA hr1 (by rfl) (pa_cons (pe_c CS hr (by rfl) (pa_cons (pv 3) (pa_cons (pv 6) (pa_cons (pv 18) pa_nil)))) (pa_cons (pv 19) pa_nil))))) (pss_one (ps_ret pe_bl)) pss_nil, fun x D σ H h q => ?_⟩
  obtain ⟨hσ, hF⟩ := h
  refine ⟨.ref x.p.td, hσ.at rfl, .int (x.p.m : Int), hσ.at rfl, x.v, hσ.at rfl, x.p.td, x.p.d, (x.p.m : Int), x.v, x.r, rfl, hF.qg.hf.tdT, hF.ok.good, by omega, by have := hF.ok.m3; omega, hF.qg.hf.hr.g1, hF.sv, fun H2 e2 => ?_⟩
  refine ⟨.bl x.r, hσ.at rfl, .bl x.r, rfl, .inr ⟨_, rfl⟩, fun H3 e3 => ⟨true, rfl, iteF (q _ _ ⟨hσ.sub ⟨rfl, rfl, rfl, rfl, rfl, rfl, rfl, rfl, rfl, rfl, rfl, rfl, rfl, rfl, rfl, trivial⟩, (hF.ext.trans e2).trans e3⟩)⟩⟩
theorem turn0 (B : Bt mg) (hr : Room 5 (A.deeper (envOfC "law" (defScope sLaw) s.heap.objs.size f cdv))) : StpI Tn (lawX P w K mg base f cdv A outer s H0 E) (lawTn 0) (TA K P1 P2) (TB K P1 P2) := by
  refine ⟨_, ps_set (i := 19) scLaw.nd rfl (.inl rfl) (pe_ifExp (pt_cmp (pc_isN (pv 18)) rfl) (pe_cmp (pc_isN (pv 15)) rfl) (pe_and (pe_cmp (pc_notN (pv 15)) rfl)
    (pe_and (pe_callB call_isi (by rfl) B.isinstance PyProof.Rows.boot_isinstance (pa_cons (pv 18) (pa_cons (pe_bltn (v := .ty "tuple") (by rfl) B.tuple boot_tuple rfl) pa_nil)))
    (pe_and (pe_cmpR op_eq (pe_callB call_len_seq (by rfl) B.len PySem.boot_len (pa_cons (pv 18) pa_nil)) pe_int (nomark _))
    (pe_one (pe_cmpR op_eq (pe_ix ix_tup (pv 18) pe_int (fun _ _ => rfl)) (pv 15) (nomark _))))))), fun x D σ H h q => ?_⟩
  obtain ⟨hσ, hF⟩ := h
  have fin : ∀ b, Due1 K x H b → D.nx (σ.set 19 (some (.bl b))) H := fun b hb => q _ _ ⟨b, hσ.set (by decide), hF, hb⟩
  rcases hF.sv with ⟨hn, hr'⟩ | ⟨c, y, hs, hk⟩
  · have hbn : bestV x.p = .non := by unfold bestV; rw [if_pos (few_none hF.ok hn)]
    have h15 : σ[15]? = some (some V.non) := by rw [← hbn]; exact hσ.at rfl
    refine ⟨x.v, hσ.at rfl, decide (x.v = .non), rfl, ?_⟩
    cases hv : decide (x.v = V.non) with
    | true => exact iteT ⟨.non, h15, fin true (.inl ⟨hn, hv.symm⟩)⟩
    | false => exact iteF ⟨.non, h15, false, rfl, iteF (fin false (.inl ⟨hn, hv.symm⟩))⟩
  · obtain ⟨g1, g2, g3, g4, g5⟩ := few_some hF.ok hs
    have h15 : σ[15]? = some (some (V.int c)) := by rw [← g2]; exact hσ.at rfl
    have hnn : (!decide (V.int c = V.non)) = true := by rw [decide_eq_false (fun z => nomatch z)]; rfl
    rcases hk with ⟨hv, hr'⟩ | ⟨i, hv, hr'⟩ | ⟨l, xs, hv, hl, hr'⟩ | ⟨c', l, xs, p, hv, hp, hl, hr'⟩ | ⟨c', ns, ⟨p, tn, hv, hp, hn⟩, hg, hr'⟩
    · refine ⟨x.v, hσ.at rfl, true, by rw [hv]; rfl, iteT ⟨.int c, h15, ?_⟩⟩
      have := fin false (.inr ⟨c, y, hs, .inl ⟨rfl, hr'⟩⟩)
      show D.nx (σ.set 19 (some (V.bl (decide (V.int c = V.non))))) H
      rw [show (decide (V.int c = V.non)) = false from decide_eq_false (fun z => nomatch z)]
      exact this
    · refine ⟨x.v, hσ.at rfl, false, by rw [hv]; rfl, iteF ⟨.int c, h15, true, congrArg V.bl hnn, iteT ?_⟩⟩
      exact ⟨x.v, hσ.at rfl, x.v, .ty "tuple", .type "int", .type "tuple", false, rfl, .ty _, by rw [hv]; exact .base (.int _), kit_ty (by decide +kernel), false, rfl, iteF (fin false (.inr ⟨c, y, hs, .inl ⟨rfl, hr'⟩⟩))⟩
    · refine ⟨x.v, hσ.at rfl, false, by rw [hv]; rfl, iteF ⟨.int c, h15, true, congrArg V.bl hnn, iteT ?_⟩⟩
      exact ⟨x.v, hσ.at rfl, x.v, .ty "tuple", .type "list", .type "tuple", false, rfl, .ty _, by rw [hv]; exact tyx_lst hl, kit_ty (by decide +kernel), false, rfl, iteF (fin false (.inr ⟨c, y, hs, .inl ⟨rfl, hr'⟩⟩))⟩
    · refine ⟨x.v, hσ.at rfl, false, by rw [hv]; rfl, iteF ⟨.int c, h15, true, congrArg V.bl hnn, iteT ?_⟩⟩
      refine ⟨x.v, hσ.at rfl, x.v, .ty "tuple", .type "tuple", .type "tuple", true, rfl, .ty _, by rw [hv]; exact tyx_tup hp, kit_ty (by decide +kernel), true, rfl, iteT ?_⟩
      refine ⟨x.v, hσ.at rfl, p, _, by rw [hv], .inr hp, rfl, true, rfl, iteT ?_⟩
      refine ⟨x.v, hσ.at rfl, p, _, 0, .int c', hv, rfl, hp, atI_nat (j := 0) rfl, .int c, h15, rfl, ?_⟩
      rw [dec_i]
      cases hc : decide (c' = c) with
      | true => exact fin true (.inr ⟨c, y, hs, .inr (.inl ⟨c', l, xs, p, hv, hp, hl, hr', rfl⟩)⟩)
      | false => exact fin false (.inr ⟨c, y, hs, .inl ⟨rfl, hr'⟩⟩)
    · refine ⟨x.v, hσ.at rfl, false, by rw [hv]; rfl, iteF ⟨.int c, h15, true, congrArg V.bl hnn, iteT ?_⟩⟩
      refine ⟨x.v, hσ.at rfl, x.v, .ty "tuple", .type "tuple", .type "tuple", true, rfl, .ty _, by rw [hv]; exact tyx_tup hp, kit_ty (by decide +kernel), true, rfl, iteT ?_⟩
      refine ⟨x.v, hσ.at rfl, p, _, by rw [hv], .inr hp, rfl, true, rfl, iteT ?_⟩
      refine ⟨x.v, hσ.at rfl, p, _, 0, .int c', hv, rfl, hp, atI_nat (j := 0) rfl, .int c, h15, rfl, ?_⟩
      rw [dec_i]
      by_cases hc : c' = c
      · rw [decide_eq_true hc]
        subst hc
        exact fin true (.inr ⟨c', y, hs, .inr (.inr ⟨ns, ⟨p, tn, hv, hp, hn⟩, hg, hr', rfl⟩)⟩)
      · rw [decide_eq_false hc]
        refine fin false (.inr ⟨c, y, hs, .inl ⟨rfl, ?_⟩⟩)
        rw [hr']
        unfold showT
        rw [decide_eq_false hc]
        rfl
theorem turn1 (B : Bt mg) (hr : Room 5 (A.deeper (envOfC "law" (defScope sLaw) s.heap.objs.size f cdv))) : StpI Tn (lawX P w K mg base f cdv A outer s H0 E) (lawTn 1) (TB K P1 P2) (TC K P1 P2) := by
  have hu65 : (A.deeper (envOfC "law" (defScope sLaw) s.heap.objs.size f cdv)).units + 65 < cLine := by have := hr.un; omega
  refine ⟨_, ps_if (PW.pt (pw_and (pt_val (pv 19)) (pw_and1 (pt_cmp (pc_notN (pv 18)) rfl)))) (pss_one (ps_set (i := 19) scLaw.nd rfl (.inl rfl)
    (pe_and (pe_callB call_isi (by rfl) B.isinstance PyProof.Rows.boot_isinstance (pa_cons (pe_ix ix_tup (pv 18) pe_int (fun _ _ => rfl)) (pa_cons (pe_bltn (v := .ty "tuple") (by rfl) B.tuple boot_tuple rfl) pa_nil)))
    (pe_and (pe_cmpR (op_inD hu65) (pe_ix ix_tup (pv 18) pe_int (fun _ _ => rfl)) (pv 13) (by rfl))
    (pe_one (pe_cmpR op_eq (pe_ix ix_list (pv 14) (pe_bm PySem.F.plainAttrs_list PySem.F.slot_list_index PySem.F.type_list_index (mt_indexD hu65) (pv 13) (pa_cons (pe_ix ix_tup (pv 18) pe_int (fun _ _ => rfl)) pa_nil)) (fun _ _ => rfl)) (pv 15) (nomark _))))))) pss_nil, fun x D σ H h q => ?_⟩
  obtain ⟨b, hσ, hF, hD⟩ := h
  have skip : b = x.r → D.nx σ H := fun e => q _ _ ⟨by rw [← e]; exact hσ, hF⟩
  have fin : ∀ b', b' = x.r → D.nx (σ.set 19 (some (.bl b'))) H := fun b' e => q _ _ ⟨by
    rw [e]
    exact (hσ.set (by decide)).sub ⟨rfl, rfl, rfl, rfl, rfl, rfl, rfl, rfl, rfl, rfl, rfl, rfl, rfl, rfl, rfl, rfl, trivial⟩, hF⟩
  rcases hD with ⟨hn, hb⟩ | ⟨c, y, hs, hk⟩
  · have hr' : x.r = decide (x.v = .non) := by
      rcases hF.sv with ⟨_, h2⟩ | ⟨c, y, hs, _⟩
      · exact h2
      · rw [hn] at hs
        cases hs
    refine ⟨.bl b, hσ.at rfl, b, rfl, ?_⟩
    cases hv : decide (x.v = V.non) with
    | true =>
      rw [hv] at hb hr'
      subst hb
      have ev : x.v = .non := by simpa using hv
      refine iteT ⟨x.v, hσ.at rfl, false, by rw [hv]; rfl, iteF (skip hr'.symm)⟩
    | false =>
      rw [hv] at hb hr'
      subst hb
      exact iteF (iteF (skip hr'.symm))
  · obtain ⟨g1, g2, g3, g4, g5⟩ := few_some hF.ok hs
    have h15 : σ[15]? = some (some (V.int c)) := by rw [← g2]; exact hσ.at rfl
    rcases hk with ⟨hb, hr'⟩ | ⟨c', l, xs, p, hv, hp, hl, hr', hb⟩ | ⟨ns, ⟨p, tn, hv, hp, hn⟩, hg, hr', hb⟩
    · subst hb
      exact ⟨.bl false, hσ.at rfl, false, rfl, iteF (iteF (skip hr'.symm))⟩
    · subst hb
      refine ⟨.bl true, hσ.at rfl, true, rfl, iteT ⟨x.v, hσ.at rfl, true, by rw [hv]; rfl, iteT ?_⟩⟩
      exact ⟨x.v, hσ.at rfl, p, _, 1, .ref l, hv, rfl, hp, atI_nat (j := 1) rfl, .ref l, .ty "tuple", .type "list", .type "tuple", false, rfl, .ty _, tyx_lst hl, kit_ty (by decide +kernel), false, rfl, iteF (fin false hr'.symm)⟩
    · subst hb
      refine ⟨.bl true, hσ.at rfl, true, rfl, iteT ⟨x.v, hσ.at rfl, true, by rw [hv]; rfl, iteT ?_⟩⟩
      refine ⟨x.v, hσ.at rfl, p, _, 1, .ref tn, hv, rfl, hp, atI_nat (j := 1) rfl, .ref tn, .ty "tuple", .type "tuple", .type "tuple", true, rfl, .ty _, tyx_tup hn, kit_ty (by decide +kernel), true, rfl, iteT ?_⟩
      have hsh : SeqAt.shaped (tupD ns) = true := by
        rcases hg with hg | ⟨hg, hl⟩
        · rw [hg]
          exact sh_tnil
        · refine sh_deps x.p.n hF.ok.n3 ns ?_
          have := hg.2.2
          rw [hl, hF.ok.len] at this
          exact this
      have hTn : TI K H (.ref tn) ns := ⟨tn, rfl, hn⟩
      refine ⟨x.v, hσ.at rfl, p, _, 1, .ref tn, hv, rfl, hp, atI_nat (j := 1) rfl, .ref x.ga, hσ.at rfl, tupD ns, (goodL x.p.n (x.p.m : Int)).map tupD, TI.dp hTn, .lst (SqL.of hF.qg.ga) (LT.dp (LS.lt hF.qg.gl)), hsh, sh_good x.p.n hF.ok.n3 x.p.m hF.ok.m3, decide (ns ∈ goodL x.p.n (x.p.m : Int)), by rw [any_tupD], ?_⟩
      by_cases hin : ns ∈ goodL x.p.n (x.p.m : Int)
      · rw [decide_eq_true hin]
        refine iteT ⟨.ref x.ca, hσ.at rfl, .ref x.ga, hσ.at rfl, .inl ⟨rfl, _, SqL.of hF.qg.ga⟩, x.v, hσ.at rfl, p, _, 1, .ref tn, hv, rfl, hp, atI_nat (j := 1) rfl, ?_⟩
        dsimp only [tNil]
        refine idx_rd hF.ok hF.qg hin hTn fun j hj => ?_
        refine ⟨x.ca, _, (j : Int), .int (unlM ns x.p.d), rfl, rfl, SqL.of hF.qg.ca, atI_nat (map_get hj), .int c, h15, rfl, ?_⟩
        rw [dec_i]
        refine fin _ ?_
        rw [hr']
        unfold showT
        obtain ⟨h1, h2⟩ := List.mem_filter.mp hin
        have h3 := of_decide_eq_true h2
        have h4 : ns ≠ [] := fun z => by
          have h5 := f_len x.p.n hF.ok.n3 ns h1
          rw [z] at h5
          have := hF.ok.n1
          simp only [List.length_nil] at h5
          omega
        have h6 : (x.p.m : Int) < shortM ns := by omega
        rw [decide_eq_true (rfl : c = c), decide_eq_true h4, decide_eq_true h6]
        simp only [Bool.true_and]
      · rw [decide_eq_false hin]
        refine iteF (fin false ?_)
        rw [hr']
        unfold showT
        rcases hg with hg | ⟨hg, hl⟩
        · have h9 : ¬ (([] : List Int) ≠ []) := fun z => z rfl
          rw [hg, decide_eq_false h9]
          simp only [Bool.false_and, Bool.and_false]
        · have hmem : ns ∈ depsM x.p.n := by
            have := hg.2.2
            rw [hl, hF.ok.len] at this
            exact this
          have h3 : ¬ ((x.p.m : Int) < shortM ns) := fun z => hin (List.mem_filter.mpr ⟨hmem, decide_eq_true (by omega)⟩)
          rw [decide_eq_false h3]
          simp only [Bool.false_and, Bool.and_false]
end
end Ft
namespace Ft
open PySem PySem.Spec PyProof.Rows L2
/-! ### the loop over the values -/
theorem Paired.mem {α β : Type} {R : α → β → Prop} : ∀ {l : List α} {ys : List β}, Paired R l ys → ∀ y ∈ ys, ∃ k, R k y
  | _, _, .nil, y, h => by cases h
  | _, _, .cons r t, y, h => by
    rcases List.mem_cons.mp h with z | z
    · rw [z]
      exact ⟨_, r⟩
    · exact Paired.mem t y z
section
variable {P : Program} {w : World} {K : PySem.W.Frag} {mg : Str → Option Value} {base : Heap} {P1 P2 : Addr} {f : Addr} {cdv : Value} {A : Around} {outer : List Env} {s : Shared} {H0 : Hp} {E : XK}
theorem law15 (B : Bt mg) (hr : Room 5 (A.deeper (envOfC "law" (defScope sLaw) s.heap.objs.size f cdv))) (CA : Cal P w K mg base 1 "_law_alike" ["_law_found", "_law_due"] spAlike0) (CS : Cal P w K mg base 5 "shows_fewest_sure" ["deputies", "many", "value"] (spShows K P1)) :
    Stp (lawX P w K mg base f cdv A outer s H0 E) (lawSt 15) (Q14 K P1 P2) (Q14 K P1 P2) := by
  obtain ⟨t0, p0, k0⟩ := turn0 (P := P) (w := w) (K := K) (base := base) (P1 := P1) (P2 := P2) (f := f) (cdv := cdv) (outer := outer) (H0 := H0) (E := E) B hr
  obtain ⟨t1, p1, k1⟩ := turn1 (P := P) (w := w) (K := K) (base := base) (P1 := P1) (P2 := P2) (f := f) (cdv := cdv) (outer := outer) (H0 := H0) (E := E) B hr
  obtain ⟨t2, p2, k2⟩ := turn2 (P2 := P2) (f := f) (cdv := cdv) (outer := outer) (H0 := H0) (E := E) hr CA CS
  refine ⟨_, ps_for PassesOwn.never rfl (pi_list (pe_op op_cat (pe_lst (pa_cons (pv 16) (pa_cons pe_non (pa_cons pe_int (pa_cons (pe_lst (pa_cons (pv 15) (pa_cons (pv 17) pa_nil)))
      (pa_cons (pe_tup (pa_cons (pv 15) (pa_cons (pe_callTy call_list_of (by rfl) B.list (by decide +kernel) (pa_cons (pv 17) pa_nil)) pa_nil))) (pa_cons (pe_tup (pa_cons pe_int (pa_cons (pv 17) pa_nil))) (pa_cons (pe_tup (pa_cons (pv 15) (pa_cons (pe_tup pa_nil) pa_nil))) pa_nil))))))))
    (pe_lc (own := [("_law_each", 10)]) (g := gName 10) (tt := tYes) (by rfl) scLaw.nd (pi_list (pv 4)) (blkOk_by (N := lawN) (sc := defScope sLaw) (by decide +kernel)) (fun _ _ _ _ _ => pg_name (i := 10) scLaw.nd rfl (Or.inl rfl)) (fun _ _ _ _ _ => pts_nil)
      (fun _ _ _ _ _ => pe_tup (pa_cons (pv 15) (pa_cons (pv 10) pa_nil)))))) (pg_name (i := 18) scLaw.nd rfl (.inl rfl)) (pss_cons p0 (pss_cons p1 (pss_one p2))), fun D σ H h q => ?_⟩
  obtain ⟨p, few, ga, ca, gs, fv, lv, ok, hf, hσ, hG, hlv⟩ := h
  obtain ⟨tl, rfl, hT⟩ := hlv
  have z2 : 2 ≤ sizeLine := by decide
  refine ⟨fv, hσ.at rfl, bestV p, hσ.at rfl, .ref tl, hσ.at rfl, z2, fun l1 n1 => ?_⟩
  have ea : Ext H (upd H l1 (.lst [bestV p, .ref tl])) := Ext.new n1
  refine ⟨bestV p, hσ.at rfl, .ref tl, hσ.at rfl, tl, _, rfl, .inr (ea.sqt hT), fun l2 n2 => ⟨z2, fun p2' np2 => ?_⟩⟩
  have eb : Ext H _ := (ea.trans (Ext.new (o := .lst ((lastL p).map V.int)) n2)).trans (Ext.new (o := .tup [bestV p, .ref l2]) np2)
  refine ⟨.ref tl, hσ.at rfl, z2, fun p3 np3 => ?_⟩
  have ec : Ext H _ := eb.trans (Ext.new (o := .tup [.int 9, .ref tl]) np3)
  refine ⟨bestV p, hσ.at rfl, Nat.zero_le _, fun t4 nt4 => ⟨z2, fun p4 np4 => ?_⟩⟩
  have e4 := Ext.new (o := .tup []) nt4
  have e4' := Ext.new (o := .tup [bestV p, .ref t4]) np4
  have ed : Ext H _ := (ec.trans e4).trans e4'
  refine ⟨by show 7 ≤ sizeLine; decide, fun L nL => ?_⟩
  generalize hx7 : ([fv, V.non, V.int 3, V.ref l1, V.ref p2', V.ref p3, V.ref p4] : List V) = xs7
  have e5 := Ext.new (o := .lst xs7) nL
  have eg : Ext H _ := ed.trans e5
  generalize hHg : upd _ L (HO.lst xs7) = Hg at eg e5
  have hLg : Hg L = some (.lst xs7) := by rw [← hHg]; exact upd_same
  have s1 : SqL K Hg l1 [bestV p, .ref tl] := SqL.of ((((((Ext.new n2).trans (Ext.new np2)).trans (Ext.new np3)).trans e4).trans e4').trans e5 |>.lst upd_same)
  have s2 : SqL K Hg l2 ((lastL p).map V.int) := SqL.of (((((Ext.new np2).trans (Ext.new np3)).trans e4).trans e4').trans e5 |>.lst upd_same)
  have s3 : SqT K Hg p2' [bestV p, .ref l2] := SqT.of ((((Ext.new np3).trans e4).trans e4').trans e5 |>.tup upd_same)
  have s4 : SqT K Hg p3 [.int 9, .ref tl] := SqT.of ((e4.trans e4').trans e5 |>.tup upd_same)
  have s5 : SqT K Hg t4 [] := SqT.of (e4'.trans e5 |>.tup upd_same)
  have s6 : SqT K Hg p4 [bestV p, .ref t4] := SqT.of (e5.tup upd_same)
  have hG1 := hG.ext eg
  have hT1 := eg.sqt hT
  have hall : ∀ v ∈ xs7, ∃ r, ShowV K Hg p.d (p.m : Int) v r := by
    cases e : fewM p.d (p.m : Int) with
    | none => exact fun v _ => ⟨decide (v = .non), .inl ⟨e, rfl⟩⟩
    | some cy =>
      obtain ⟨c, y⟩ := cy
      obtain ⟨g1, g2, g3, g4, g5⟩ := few_some ok e
      have hy := goodL_sub g3
      obtain ⟨gy, gl⟩ := good_of ok.n1 ok.n3 hy
      have hll : lastL p = y := by unfold lastL; rw [e]
      have hfv := hG1.fv
      rw [e] at hfv
      rw [g2] at s3 s6
      rw [hll] at s2 hT1
      intro v hv
      rw [← hx7] at hv
      have hgd : y = [] ∨ (GoodD y ∧ y.length = p.d.length) := .inr ⟨gy, by rw [gl, ok.len]⟩
      rcases List.mem_cons.mp hv with rfl | hv
      · exact ⟨_, .inr ⟨c, y, e, .inr (.inr (.inr (.inr ⟨c, y, hfv, hgd, rfl⟩)))⟩⟩
      rcases List.mem_cons.mp hv with rfl | hv
      · exact ⟨_, .inr ⟨c, y, e, .inl ⟨rfl, rfl⟩⟩⟩
      rcases List.mem_cons.mp hv with rfl | hv
      · exact ⟨_, .inr ⟨c, y, e, .inr (.inl ⟨3, rfl, rfl⟩)⟩⟩
      rcases List.mem_cons.mp hv with rfl | hv
      · exact ⟨_, .inr ⟨c, y, e, .inr (.inr (.inl ⟨l1, _, rfl, s1, rfl⟩))⟩⟩
      rcases List.mem_cons.mp hv with rfl | hv
      · exact ⟨_, .inr ⟨c, y, e, .inr (.inr (.inr (.inl ⟨c, l2, _, p2', rfl, s3, s2, rfl⟩)))⟩⟩
      rcases List.mem_cons.mp hv with rfl | hv
      · exact ⟨_, .inr ⟨c, y, e, .inr (.inr (.inr (.inr ⟨9, y, ⟨p3, tl, rfl, s4, hT1⟩, hgd, rfl⟩)))⟩⟩
      rcases List.mem_cons.mp hv with rfl | hv
      · exact ⟨_, .inr ⟨c, y, e, .inr (.inr (.inr (.inr ⟨c, [], ⟨p4, t4, rfl, s6, s5⟩, .inl rfl, rfl⟩)))⟩⟩
      · cases hv
  obtain ⟨ys, hle, hLS⟩ := hG1.hf.every
  have hlen : ys.length ≤ 64 := by rw [hLS.len]; exact depsM_len64 p.n ok.n3
  refine ⟨.ref p.le, hσ.at rfl, p.le, rfl, ⟨ys, SqL.of hle⟩, fun D2 nD => ?_⟩
  refine lc_lst (a := p.le) (xs := ys) (j := 10) yes (fun _ v H' => ∃ r, ShowV K H' p.d (p.m : Int) v r) (fun i y H1 H2 h e => by
    obtain ⟨r, h⟩ := h
    exact ⟨r, h.mono e⟩) (by omega) (SqL.of hle) nD (fun x => hw1 x) ?_ ?_ ?_
  · exact fun i x H' hx e Q2 h2 => h2 H' (Ext.refl H')
  · intro k x H2 hx e2 hacc _ Q2 h2
    obtain ⟨e0, he, te, rfl, ht⟩ := (hLS.mono e2).get hx
    obtain ⟨acc, hacc⟩ := hacc
    have hemem : e0 ∈ depsM p.n := List.mem_of_getElem? he
    obtain ⟨ge, gl⟩ := good_of ok.n1 ok.n3 hemem
    have hσ3 := hσ.blk (j := 10) (x := .ref te) rfl (by decide)
    refine ⟨bestV p, hσ3.at rfl, .ref te, hσ3.at rfl, z2, fun pp npp => h2 _ _ (Ext.new npp) ?_⟩
    have npD : pp ≠ D2 := fun z => by rw [z, hacc] at npp; cases npp
    have ntD : te ≠ D2 := fun z => by rw [z, hacc] at ht; cases ht
    cases e : fewM p.d (p.m : Int) with
    | none => exact ⟨_, .inl ⟨e, rfl⟩⟩
    | some cy =>
      obtain ⟨c, y⟩ := cy
      obtain ⟨g1, g2, g3, g4, g5⟩ := few_some ok e
      refine ⟨_, .inr ⟨c, y, e, .inr (.inr (.inr (.inr ⟨c, e0, ⟨pp, te, rfl, SqT.of ?_, SqT.of ?_⟩, .inr ⟨ge, by rw [gl, ok.len]⟩, rfl⟩)))⟩⟩
      · rw [hid_ne npD, upd_same, g2]
      · rw [hid_ne ntD]
        exact (Ext.new (o := .tup [bestV p, .ref te]) npp).tup ht
  · intro H2 ws e2 hws hp
    have hwl := Paired.length hp
    have hwm := Paired.mem hp
    rw [filter_yes, List.length_range] at hwl
    have nLD : L ≠ D2 := ne_of_none hLg nD
    refine ⟨L, D2, xs7, ws, rfl, rfl, e2.lst hLg, hws, ?_, fun N nN => ?_⟩
    · have : xs7.length = 7 := by rw [← hx7]; rfl
      exact sz (by omega)
    have e3 := Ext.new (o := .lst (xs7 ++ ws)) nN
    refine ⟨N, rfl, ⟨xs7 ++ ws, SqL.of upd_same⟩, ?_⟩
    have hallN : ∀ v ∈ xs7 ++ ws, ∃ r, ShowV K (upd H2 N (.lst (xs7 ++ ws))) p.d (p.m : Int) v r := by
      intro v hv
      rcases List.mem_append.mp hv with hv | hv
      · obtain ⟨r, h⟩ := hall v hv
        exact ⟨r, (h.mono e2).mono e3⟩
      · obtain ⟨k, r, h⟩ := hwm v hv
        exact ⟨r, (h.mono (ext_hid D2 H2)).mono e3⟩
    refine for_list (K := K) (a := N) (xs := xs7 ++ ws) (fun i σ' H' => Has σ' ((17, .ref tl) :: base6 p few ga ca fv) ∧ Ext (upd H2 N (.lst (xs7 ++ ws))) H') ⟨hσ, Ext.refl _⟩ (fun i σ' H' _ h => SqL.of (h.2.lst upd_same)) ?_ ?_
    · rintro i v σ' H3 hv ⟨hσ1, e4⟩
      obtain ⟨r, hsv⟩ := hallN v (List.mem_of_getElem? hv)
      have hq3 := ((hG1.ext e2).ext e3).ext e4
      exact k0 ⟨p, few, ga, ca, gs, fv, .ref tl, v, r, H3⟩ _ _ _ ⟨hσ1.set (by decide), ⟨ok, hq3, hsv.mono e4, Ext.refl _⟩⟩ fun σ2 H4 hB => k1 _ _ _ _ hB fun σ3 H5 hC => k2 _ _ _ _ hC fun σ4 H6 hD =>
        ⟨hD.1.sub ⟨rfl, rfl, rfl, rfl, rfl, rfl, rfl, rfl, rfl, rfl, rfl, rfl, rfl, rfl, trivial⟩, e4.trans hD.2⟩
    · rintro σ' H3 ⟨hσ1, e4⟩
      have e6 := ((eg.trans e2).trans e3).trans e4
      exact q _ _ ⟨p, few, ga, ca, gs, fv, .ref tl, ok, hf, hσ1, hG.ext e6, ⟨tl, rfl, e6.sqt hT⟩⟩
end
end Ft
namespace Ft
open PySem PySem.Spec PyProof.Rows L2
/-! ### held, counts, mean, square -/
def RLi (f : Nat → List Int) : Nat → V → Hp → Prop := fun i y H => ∃ l, y = .ref l ∧ H l = some (.lst ((f i).map V.int))
theorem RLi.mono (f : Nat → List Int) : Mono (RLi f) := fun _ _ _ _ h e => by
  obtain ⟨l, r, h⟩ := h
  exact ⟨l, r, e.lst h⟩
def LI (H : Hp) (ys : List V) (L : List (List Int)) : Prop := Paired (fun y ns => ∃ l, y = .ref l ∧ H l = some (.lst (ns.map V.int))) ys L
theorem LI.mono {H H' : Hp} {ys : List V} {L : List (List Int)} (h : LI H ys L) (e : Ext H H') : LI H' ys L := L2.Paired.mapP h fun _ _ r => by
  obtain ⟨l, r, h⟩ := r
  exact ⟨l, r, e.lst h⟩
theorem LI.len {H : Hp} {ys : List V} {L : List (List Int)} (h : LI H ys L) : ys.length = L.length := Paired.length h
theorem LI.get {H : Hp} : ∀ {ys : List V} {L : List (List Int)} {i : Nat} {y : V}, LI H ys L → ys[i]? = some y → ∃ ns l, L[i]? = some ns ∧ y = .ref l ∧ H l = some (.lst (ns.map V.int))
  | _, _, i, _, .nil, h => by simp at h
  | _, _, 0, _, .cons r t, h => by
    simp at h
    subst h
    obtain ⟨l, e, r⟩ := r
    exact ⟨_, l, rfl, e, r⟩
  | _, _, i + 1, y, .cons r t, h => LI.get (i := i) (y := y) t h
theorem paired_RLi {f : Nat → List Int} {H : Hp} : ∀ {l : List Nat} {ys : List V}, Paired (fun k y => RLi f k y H) l ys → LI H ys (l.map f)
  | _, _, .nil => .nil
  | _, _, .cons h t => .cons h (paired_RLi t)
def heldM (p : Pm) (few : Nat) : List (List Int) := (lotsOf p.n (few : Int)).map fun s => lholdersM p.d s
def Q16 (K : PySem.W.Frag) (P1 P2 : Addr) (σ : L2.St) (H : Hp) : Prop := ∃ (p : Pm) (few : Nat) (ha : Addr) (hs : List V), PmOk p ∧ few ≤ p.n ∧ Has σ ((20, .ref ha) :: (12, .int (few : Int)) :: base8 p) ∧ HF K P1 P2 p H ∧ H ha = some (.lst hs) ∧ LI H hs (heldM p few)
def Q17 (K : PySem.W.Frag) (P1 P2 : Addr) (σ : L2.St) (H : Hp) : Prop := ∃ (p : Pm) (few : Nat) (ha ca : Addr) (hs : List V), PmOk p ∧ few ≤ p.n ∧ Has σ ((21, .ref ca) :: (20, .ref ha) :: (12, .int (few : Int)) :: base8 p) ∧ HF K P1 P2 p H ∧ H ha = some (.lst hs) ∧ LI H hs (heldM p few) ∧ H ca = some (.lst ((cntsM p.d (few : Int)).map V.int))
def Q18 (K : PySem.W.Frag) (P1 P2 : Addr) (σ : L2.St) (H : Hp) : Prop := ∃ (p : Pm) (few : Nat) (ha ca : Addr) (hs : List V) (mv : V), PmOk p ∧ few ≤ p.n ∧ Has σ ((22, mv) :: (21, .ref ca) :: (20, .ref ha) :: (12, .int (few : Int)) :: base8 p) ∧ HF K P1 P2 p H ∧ H ha = some (.lst hs) ∧ LI H hs (heldM p few) ∧ H ca = some (.lst ((cntsM p.d (few : Int)).map V.int)) ∧ TI K H mv (meanM p.d (few : Int))
def Q19 (K : PySem.W.Frag) (P1 P2 : Addr) (σ : L2.St) (H : Hp) : Prop := ∃ (p : Pm) (few : Nat) (ha : Addr) (hs : List V) (mv sv : V), PmOk p ∧ few ≤ p.n ∧ Has σ ((23, sv) :: (22, mv) :: (20, .ref ha) :: (12, .int (few : Int)) :: base8 p) ∧ HF K P1 P2 p H ∧ H ha = some (.lst hs) ∧ LI H hs (heldM p few) ∧ TI K H mv (meanM p.d (few : Int)) ∧ TI K H sv (sqM p.d (few : Int))
theorem lots_pos {p : Pm} (ok : PmOk p) {few : Nat} (hf : few ≤ p.n) : 0 < (lotsOf p.n (few : Int)).length ∧ (lotsOf p.n (few : Int)).length ≤ 8 := lotsOf_len p.n ok.n3 ok.n1 few hf
theorem cnts_len (d : List Int) (m : Int) : (cntsM d m).length = (lotsOf d.length m).length := by
  unfold cntsM
  rw [List.length_map]
section
variable {P : Program} {w : World} {K : PySem.W.Frag} {mg : Str → Option Value} {base : Heap} {P1 P2 : Addr} {f : Addr} {cdv : Value} {A : Around} {outer : List Env} {s : Shared} {H0 : Hp} {E : XK}
theorem law16 (B : Bt mg) (hr : Room 5 (A.deeper (envOfC "law" (defScope sLaw) s.heap.objs.size f cdv))) (CH : Cal P w K mg base 2 "_law_holders" ["_law_deputies_here", "_law_gone"] (spLawHolders K)) : Stp (lawX P w K mg base f cdv A outer s H0 E) (lawSt 16) (Q14 K P1 P2) (Q16 K P1 P2) := by
  have hr2 : Room 2 _ := hr.mono (by decide)
  refine ⟨_, ps_setLc (i := 20) (own := [("_law_lot_here", 25)]) (g := gName 25) (by rfl) scLaw.nd rfl rfl (sw_true rfl rfl rfl (by decide +kernel)) (pi_list (pv 5)) (blkOk_by (N := lawN) (sc := defScope sLaw) (by decide +kernel)) (fun _ _ _ _ _ => pg_name (i := 25) scLaw.nd rfl (Or.inl rfl))
        (fun _ _ _ _ _ => pts_one (pt_cmpR op_eq (pe_callB (call_lenK K) (by rfl) B.len PySem.boot_len (pa_cons (pv 25) pa_nil)) (pv 12) (nomark _)))
        (fun _ _ _ _ _ => pe_c CH hr2 (by rfl) (pa_cons (pv 3) (pa_cons (pv 25) pa_nil))), fun D σ H h q => ?_⟩
  obtain ⟨p, few, ga, ca, gs, fv, lv, ok, hf, hσ, hG, _⟩ := h
  have hF := hG.hf
  obtain ⟨zs, hll, hLT⟩ := hF.lots
  have hzl := hLT.len
  have h8 := lotsM_len8 p.n ok.n3
  refine ⟨.ref p.ll, hσ.at rfl, p.ll, rfl, ⟨zs, SqL.of hll⟩, fun D2 nD => ?_⟩
  refine lc_lst (a := p.ll) (xs := zs) (j := 25) (fun i => decide ((((lotsM p.n).getD i []).length : Int) = (few : Int))) (RLi fun i => lholdersM p.d ((lotsM p.n).getD i [])) (RLi.mono _) (by omega) (SqL.of hll) nD (fun x => hw1 x) ?_ ?_ ?_
  · intro k x H2 hx e2 Q2 h2
    obtain ⟨sl, hs, ts, rfl, hts⟩ := LT.get (hLT.mono e2) hx
    have hσ3 := hσ.blk (j := 25) (x := .ref ts) rfl (by decide)
    refine ⟨.ref ts, hσ3.at rfl, ts, sl.map V.int, rfl, .inr hts, .int (few : Int), hσ3.at rfl, rfl, _, rfl, ?_⟩
    have := h2 H2 (Ext.refl H2)
    rw [getD_of hs] at this
    rw [dec_i, List.length_map]
    exact this
  · intro k x H2 hx e2 hacc _ Q2 h2
    obtain ⟨sl, hs, ts, rfl, hts⟩ := LT.get (hLT.mono e2) hx
    obtain ⟨acc, hacc⟩ := hacc
    have hσ3 := hσ.blk (j := 25) (x := .ref ts) rfl (by decide)
    refine ⟨.ref p.td, hσ3.at rfl, .ref ts, hσ3.at rfl, p.td, ts, p.d, sl, rfl, (hF.ext e2).tdT, hts, ok.good, fun H5 l5 e5 n5 h5 => h2 _ H5 e5 ⟨l5, rfl, ?_⟩⟩
    have nl : l5 ≠ D2 := fun z => by rw [z, hacc] at n5; cases n5
    show hid D2 H5 l5 = some (HO.lst (List.map V.int (lholdersM p.d ((lotsM p.n).getD k []))))
    rw [hid_ne nl, h5, getD_of hs]
  · intro H2 ws e2 hws hp
    have hw := paired_RLi hp
    rw [hzl] at hw
    have er : ((List.range (lotsM p.n).length).filter fun i => decide ((((lotsM p.n).getD i []).length : Int) = (few : Int))).map (fun i => lholdersM p.d ((lotsM p.n).getD i [])) = heldM p few :=
      range_filter [] (lotsM p.n) (fun sl => decide ((sl.length : Int) = (few : Int))) (fun sl => lholdersM p.d sl)
    rw [er] at hw
    exact q _ _ ⟨p, few, D2, ws, ok, hf, (hσ.set (j := 20) (v := .ref D2) (by decide)).sub ⟨rfl, rfl, rfl, rfl, rfl, rfl, rfl, rfl, rfl, rfl, trivial⟩, hF.ext e2, hws, hw.mono (ext_hid D2 H2)⟩
theorem law17 : Stp (lawX P w K mg base f cdv A outer s H0 E) (lawSt 17) (Q16 K P1 P2) (Q17 K P1 P2) := by
  refine ⟨_, ps_setLc (i := 21) (own := [("_law_each", 10)]) (g := gName 10) (tt := tYes) (by rfl) scLaw.nd rfl rfl (sw_true rfl rfl rfl (by decide +kernel)) (pi_list (pv 20)) (blkOk_by (N := lawN) (sc := defScope sLaw) (by decide +kernel)) (fun _ _ _ _ _ => pg_name (i := 10) scLaw.nd rfl (Or.inl rfl))
        (fun _ _ _ _ _ => pts_nil) (fun _ _ _ _ _ => pe_bmK K PySem.F.plainAttrs_list PySem.F.slot_list_count PySem.F.type_list_count (mt_countK K) (pv 10) (pa_cons (pe_un un_neg pe_int) pa_nil)), fun D σ H h q => ?_⟩
  obtain ⟨p, few, ha, hs, ok, hf, hσ, hF, hha, hLI⟩ := h
  obtain ⟨lp1, lp2⟩ := lots_pos ok hf
  have hl : hs.length = (lotsOf p.n (few : Int)).length := by
    rw [hLI.len]
    unfold heldM
    rw [List.length_map]
  refine ⟨.ref ha, hσ.at rfl, ha, rfl, ⟨hs, SqL.of hha⟩, fun D2 nD => ?_⟩
  refine lc_lst (a := ha) (xs := hs) (j := 10) yes (RI fun i => ((((heldM p few).getD i []).count (-1) : Nat) : Int)) (RI.mono _) (by omega) (SqL.of hha) nD (fun x => hw1 x) ?_ ?_ ?_
  · exact fun i x H' hx e Q2 h2 => h2 H' (Ext.refl H')
  · intro k x H2 hx e2 _ _ Q2 h2
    obtain ⟨ns, l, hn, rfl, hl2⟩ := (hLI.mono e2).get hx
    have hσ3 := hσ.blk (j := 10) (x := .ref l) rfl (by decide)
    refine ⟨.ref l, hσ3.at rfl, .inl ⟨rfl, _, SqL.of hl2⟩, 1, rfl, l, ns, -1, rfl, rfl, SqL.of hl2, h2 _ H2 (Ext.refl H2) ?_⟩
    show V.int _ = V.int ((((heldM p few).getD k []).count (-1) : Nat) : Int)
    rw [getD_of hn]
  · intro H2 ws e2 hws hp
    have ew := paired_RI (H := fun k y => hid D2 H2) hp
    rw [filter_yes, hLI.len] at ew
    have er : (List.range (heldM p few).length).map (fun i => ((((heldM p few).getD i []).count (-1) : Nat) : Int)) = cntsM p.d (few : Int) := by
      have h1 := range_filter [] (heldM p few) (fun _ => true) (fun e => ((e.count (-1) : Nat) : Int))
      rw [List.filter_eq_self.mpr (fun _ _ => rfl), List.filter_eq_self.mpr (fun _ _ => rfl)] at h1
      rw [h1, ← f_cnts p.n ok.n3 ok.n1 p.d ok.hd few hf]
      unfold heldM lcntsM
      rw [List.map_map, ok.len]
      rfl
    rw [er] at ew
    subst ew
    exact q _ _ ⟨p, few, ha, D2, hs, ok, hf, hσ.set (by decide), hF.ext e2, e2.lst hha, hLI.mono e2, hws⟩
theorem law18 (B : Bt mg) (hr : Room 5 (A.deeper (envOfC "law" (defScope sLaw) s.heap.objs.size f cdv))) (CR : Cal P w K mg base 1 "_law_ratio" ["_law_top", "_law_bottom"] (spRatio K)) : Stp (lawX P w K mg base f cdv A outer s H0 E) (lawSt 18) (Q17 K P1 P2) (Q18 K P1 P2) := by
  have hr1 : Room 1 _ := hr.mono (by decide)
  refine ⟨_, ps_set (i := 22) scLaw.nd rfl (.inl rfl) (pe_c CR hr1 (by rfl) (pa_cons (pe_callB (cr_sum rfl) (by rfl) B.sum (by decide +kernel) (pa_cons (pv 21) pa_nil)) (pa_cons (pe_callB call_len_seq (by rfl) B.len PySem.boot_len (pa_cons (pv 21) pa_nil)) pa_nil))), fun D σ H h q => ?_⟩
  obtain ⟨p, few, ha, ca, hs, ok, hf, hσ, hF, hha, hLI, hca⟩ := h
  obtain ⟨lp1, lp2⟩ := lots_pos ok hf
  have hcl := cnts_len p.d (few : Int)
  rw [ok.len] at hcl
  refine ⟨.ref ca, hσ.at rfl, ca, cntsM p.d (few : Int), rfl, SqL.of hca, .ref ca, hσ.at rfl, ca, _, rfl, .inl (SqL.of hca), (cntsM p.d (few : Int)).sum, ((cntsM p.d (few : Int)).length : Int), ?_, by omega, by omega, fun H3 v3 e3 hv3 => ?_⟩
  · rw [List.length_map]
  exact q _ _ ⟨p, few, ha, ca, hs, v3, ok, hf, hσ.set (by decide), hF.ext e3, e3.lst hha, hLI.mono e3, e3.lst hca, hv3⟩
theorem law19 (B : Bt mg) (hr : Room 5 (A.deeper (envOfC "law" (defScope sLaw) s.heap.objs.size f cdv))) (CR : Cal P w K mg base 1 "_law_ratio" ["_law_top", "_law_bottom"] (spRatio K)) : Stp (lawX P w K mg base f cdv A outer s H0 E) (lawSt 19) (Q18 K P1 P2) (Q19 K P1 P2) := by
  have hr1 : Room 1 _ := hr.mono (by decide)
  refine ⟨_, ps_set (i := 23) scLaw.nd rfl (.inl rfl) (pe_c CR hr1 (by rfl) (pa_cons (pe_callB (cr_sum rfl) (by rfl) B.sum (by decide +kernel) (pa_cons
      (pe_lc (own := [("_law_k", 26)]) (g := gName 26) (tt := tYes) (by rfl) scLaw.nd (pi_list (pv 21)) (blkOk_by (N := lawN) (sc := defScope sLaw) (by decide +kernel)) (fun _ _ _ _ _ => pg_name (i := 26) scLaw.nd rfl (Or.inl rfl)) (fun _ _ _ _ _ => pts_nil)
        (fun _ _ _ _ _ => pe_op op_mul (pv 26) (pv 26))) pa_nil)) (pa_cons (pe_callB call_len_seq (by rfl) B.len PySem.boot_len (pa_cons (pv 21) pa_nil)) pa_nil))), fun D σ H h q => ?_⟩
  obtain ⟨p, few, ha, ca, hs, mv, ok, hf, hσ, hF, hha, hLI, hca, hmv⟩ := h
  obtain ⟨lp1, lp2⟩ := lots_pos ok hf
  have hcl := cnts_len p.d (few : Int)
  rw [ok.len] at hcl
  refine ⟨.ref ca, hσ.at rfl, ca, rfl, ⟨_, SqL.of hca⟩, fun D2 nD => ?_⟩
  refine lc_lst (a := ca) (xs := (cntsM p.d (few : Int)).map V.int) (j := 26) yes (RI fun i => (cntsM p.d (few : Int)).getD i 0 * (cntsM p.d (few : Int)).getD i 0) (RI.mono _) (by rw [List.length_map]; omega) (SqL.of hca) nD (fun x => hw1 x) ?_ ?_ ?_
  · exact fun i x H' hx e Q2 h2 => h2 H' (Ext.refl H')
  · intro k x H2 hx e2 _ _ Q2 h2
    obtain ⟨n, hn, rfl⟩ := get_map hx
    have hσ3 := hσ.blk (j := 26) (x := .int n) rfl (by decide)
    refine ⟨.int n, hσ3.at rfl, .int n, hσ3.at rfl, n, n, rfl, rfl, cnts_get (List.mem_of_getElem? hn) (by rw [ok.len]; exact ok.n3), h2 _ H2 (Ext.refl H2) ?_⟩
    show V.int _ = V.int ((cntsM p.d (few : Int)).getD k 0 * (cntsM p.d (few : Int)).getD k 0)
    rw [getD_of hn]
  · intro H2 ws e2 hws hp
    have ew := paired_RI (H := fun k y => hid D2 H2) hp
    rw [filter_yes, List.length_map] at ew
    have er : (List.range (cntsM p.d (few : Int)).length).map (fun i => (cntsM p.d (few : Int)).getD i 0 * (cntsM p.d (few : Int)).getD i 0) = (cntsM p.d (few : Int)).map fun i => i * i := by
      have h1 := range_filter (0 : Int) (cntsM p.d (few : Int)) (fun _ => true) (fun e => e * e)
      rw [List.filter_eq_self.mpr (fun _ _ => rfl), List.filter_eq_self.mpr (fun _ _ => rfl)] at h1
      exact h1
    rw [er] at ew
    subst ew
    refine ⟨D2, _, rfl, SqL.of hws, .ref ca, hσ.at rfl, ca, _, rfl, .inl (SqL.of (e2.lst hca)), ((cntsM p.d (few : Int)).map fun i => i * i).sum, ((cntsM p.d (few : Int)).length : Int), ?_, by omega, by omega, fun H3 v3 e3 hv3 => ?_⟩
    · rw [List.length_map]
    have e23 := e2.trans e3
    exact q _ _ ⟨p, few, ha, hs, mv, v3, ok, hf, (hσ.set (j := 23) (v := v3) (by decide)).sub ⟨rfl, rfl, rfl, rfl, rfl, rfl, rfl, rfl, rfl, rfl, rfl, rfl, trivial⟩, hF.ext e23, e23.lst hha, hLI.mono e23, hmv.mono e23, hv3⟩
end
end Ft
namespace Ft
open PySem PySem.Spec PyProof.Rows L2
/-! ### spread, both_out -/
def Q20 (K : PySem.W.Frag) (P1 P2 : Addr) (σ : L2.St) (H : Hp) : Prop := ∃ (p : Pm) (few : Nat) (ha : Addr) (hs : List V), PmOk p ∧ few ≤ p.n ∧ Has σ ((20, .ref ha) :: (12, .int (few : Int)) :: base8 p) ∧ HF K P1 P2 p H ∧ H ha = some (.lst hs) ∧ LI H hs (heldM p few)
def Q21 (K : PySem.W.Frag) (P1 P2 : Addr) (σ : L2.St) (H : Hp) : Prop := ∃ (p : Pm) (few : Nat) (ha : Addr) (hs : List V), PmOk p ∧ few ≤ p.n ∧ Has σ ((24, .int (bothC p.d (p.a : Int) (p.b : Int) (lotsOf p.n (few : Int)))) :: (20, .ref ha) :: (12, .int (few : Int)) :: base8 p) ∧ HF K P1 P2 p H ∧ H ha = some (.lst hs) ∧ LI H hs (heldM p few)
theorem lhold_len (d s : List Int) : (lholdersM d s).length = d.length := by
  unfold lholdersM
  rw [List.length_map, List.length_range]
theorem sm_m1 : smallP [-1, 1] = true := by decide
theorem rat_len (a b : Int) : (ratM a b).length = 2 := rfl
section
variable {P : Program} {w : World} {K : PySem.W.Frag} {mg : Str → Option Value} {base : Heap} {P1 P2 : Addr} {f : Addr} {cdv : Value} {A : Around} {outer : List Env} {s : Shared} {H0 : Hp} {E : XK}
theorem law20 (hr : Room 5 (A.deeper (envOfC "law" (defScope sLaw) s.heap.objs.size f cdv))) (CA : Cal P w K mg base 2 "_law_alike" ["_law_found", "_law_due"] (spAlike K)) (CS : Cal P w K mg base 5 "spread" ["deputies", "many"] (spSpread K P1 P2)) (CP : Cal P w K mg base 2 "_law_plus" ["_law_one", "_law_other"] (spPlus K))
    (CB : Cal P w K mg base 2 "_law_by" ["_law_one", "_law_other"] (spBy K)) : Stp (lawX P w K mg base f cdv A outer s H0 E) (lawSt 20) (Q19 K P1 P2) (Q20 K P1 P2) := by
  have hr2 : Room 2 _ := hr.mono (by decide)
  refine ⟨_, ps_if (pt_not (pt_val (pe_c CA hr2 (by rfl) (pa_cons (pe_c CS hr (by rfl) (pa_cons (pv 3) (pa_cons (pv 12) pa_nil))) (pa_cons (pe_c CP hr2 (by rfl) (pa_cons (pv 23) (pa_cons (pe_c CB hr2 (by rfl) (pa_cons (pe_tup (pa_cons (pe_un un_neg pe_int) (pa_cons pe_int pa_nil)))
    (pa_cons (pe_c CB hr2 (by rfl) (pa_cons (pv 22) (pa_cons (pv 22) pa_nil))) pa_nil))) pa_nil))) pa_nil))))) (pss_one (ps_ret pe_bl)) pss_nil, fun D σ H h q => ?_⟩
  obtain ⟨p, few, ha, hs, mv, sv, ok, hf, hσ, hF, hha, hLI, hmv, hsv⟩ := h
  obtain ⟨s1, s2, s3⟩ := spread_small (m := (few : Int)) ok.good (by omega) (by rw [ok.len]; omega)
  obtain ⟨f1, f2, f3⟩ := f_spread p.n ok.n3 ok.n1 p.d ok.hd few hf
  refine ⟨.ref p.td, hσ.at rfl, .int (few : Int), hσ.at rfl, p.td, p.d, (few : Int), rfl, hF.tdT, ok.good, by omega, by rw [ok.len]; omega, hF.hr.g1, hF.hr.g2, fun H1 v1 e1 hv1 => ?_⟩
  refine ⟨sv, hσ.at rfl, 1, rfl, by show 2 ≤ sizeLine; decide, fun T nT => ?_⟩
  have eT := Ext.new (o := .tup [.int (-1), .int 1]) nT
  have hmv1 := (hmv.mono e1).mono eT
  refine ⟨mv, hσ.at rfl, mv, hσ.at rfl, mv, mv, meanM p.d (few : Int), meanM p.d (few : Int), rfl, hmv1, hmv1, s1, s1, fun H3 v3 e3 hv3 => ?_⟩
  refine ⟨.ref T, v3, [-1, 1], byM (meanM p.d (few : Int)) (meanM p.d (few : Int)), rfl, ⟨T, rfl, SqT.of (e3.tup upd_same)⟩, hv3, sm_m1, s3, fun H4 v4 e4 hv4 => ?_⟩
  have e14 := (eT.trans e3).trans e4
  refine ⟨sv, v4, sqM p.d (few : Int), byM [-1, 1] (byM (meanM p.d (few : Int)) (meanM p.d (few : Int))), rfl, (hsv.mono e1).mono e14, hv4, s2, f2, fun H5 v5 e5 hv5 => ?_⟩
  rw [← f1] at hv5
  refine ⟨v1, v5, spreadM p.d (few : Int), rfl, (hv1.mono e14).mono e5, hv5, f3, fun H6 e6 => ⟨true, rfl, iteF ?_⟩⟩
  have e06 := ((e1.trans e14).trans e5).trans e6
  exact q _ _ ⟨p, few, ha, hs, ok, hf, hσ.sub ⟨rfl, rfl, rfl, rfl, rfl, rfl, rfl, rfl, rfl, rfl, trivial⟩, hF.ext e06, e06.lst hha, hLI.mono e06⟩
theorem law21 (B : Bt mg) : Stp (lawX P w K mg base f cdv A outer s H0 E) (lawSt 21) (Q20 K P1 P2) (Q21 K P1 P2) := by
  refine ⟨_, ps_set (i := 24) scLaw.nd rfl (.inl rfl) (pe_callB call_len_seq (by rfl) B.len PySem.boot_len (pa_cons
      (pe_lc (own := [("_law_each", 10)]) (g := gName 10) (by rfl) scLaw.nd (pi_list (pv 20)) (blkOk_by (N := lawN) (sc := defScope sLaw) (by decide +kernel)) (fun _ _ _ _ _ => pg_name (i := 10) scLaw.nd rfl (Or.inl rfl))
        (fun _ _ _ _ _ => pts_one (PW.pt (pw_and (pt_cmpR op_eq (pe_ix (ix_listK K) (pv 10) (pv 7) (fun _ _ => rfl)) (pe_un un_neg pe_int) (nomark _)) (pw_and1 (pt_cmpR op_eq (pe_ix (ix_listK K) (pv 10) (pv 8) (fun _ _ => rfl)) (pe_un un_neg pe_int) (nomark _))))))
        (fun _ _ _ _ _ => pe_int)) pa_nil)), fun D σ H h q => ?_⟩
  obtain ⟨p, few, ha, hs, ok, hf, hσ, hF, hha, hLI⟩ := h
  obtain ⟨lp1, lp2⟩ := lots_pos ok hf
  have hl : hs.length = (lotsOf p.n (few : Int)).length := by
    rw [hLI.len]
    unfold heldM
    rw [List.length_map]
  refine ⟨.ref ha, hσ.at rfl, ha, rfl, ⟨hs, SqL.of hha⟩, fun D2 nD => ?_⟩
  refine lc_lst (a := ha) (xs := hs) (j := 10) (fun i => decide (((heldM p few).getD i []).getD p.a 0 = -1) && decide (((heldM p few).getD i []).getD p.b 0 = -1)) (fun _ _ _ => True) (fun _ _ _ _ _ _ => trivial) (by omega) (SqL.of hha) nD (fun x => hw1 x) ?_ ?_ ?_
  · intro k x H2 hx e2 Q2 h2
    obtain ⟨ns, l, hn, rfl, hl2⟩ := (hLI.mono e2).get hx
    have hσ3 := hσ.blk (j := 10) (x := .ref l) rfl (by decide)
    have hnl : ns.length = p.n := by
      have := List.mem_of_getElem? hn
      obtain ⟨sl, _, rfl⟩ := List.mem_map.mp this
      rw [lhold_len, ok.len]
    have ha1 : ns[p.a]? = some (ns.getD p.a 0) := by
      rw [List.getD_eq_getElem?_getD, List.getElem?_eq_getElem (by rw [hnl]; exact ok.an)] <;> rfl
    have hb1 : ns[p.b]? = some (ns.getD p.b 0) := by
      rw [List.getD_eq_getElem?_getD, List.getElem?_eq_getElem (by rw [hnl]; exact ok.bn)] <;> rfl
    have h3 := h2 H2 (Ext.refl H2)
    rw [getD_of hn] at h3
    refine ⟨.ref l, hσ3.at rfl, .int (p.a : Int), hσ3.at rfl, l, ns.map V.int, (p.a : Int), .int (ns.getD p.a 0), rfl, rfl, SqL.of hl2, atI_nat (map_get ha1), 1, rfl, rfl, decide (V.int (ns.getD p.a 0) = V.int (-1)), rfl, ?_⟩
    rw [dec_i]
    cases hA : decide (ns.getD p.a 0 = -1) with
    | false =>
      rw [hA, Bool.false_and] at h3
      exact iteF h3
    | true =>
      rw [hA, Bool.true_and] at h3
      refine iteT ⟨.ref l, hσ3.at rfl, .int (p.b : Int), hσ3.at rfl, l, ns.map V.int, (p.b : Int), .int (ns.getD p.b 0), rfl, rfl, SqL.of hl2, atI_nat (map_get hb1), 1, rfl, rfl, decide (V.int (ns.getD p.b 0) = V.int (-1)), rfl, ?_⟩
      rw [dec_i]
      exact h3
  · intro k x H2 hx e2 _ _ Q2 h2
    exact h2 _ H2 (Ext.refl H2) trivial
  · intro H2 ws e2 hws hp
    have hwl := Paired.length hp
    rw [hLI.len] at hwl
    have h1 := range_filter [] (heldM p few) (fun e => decide (e.getD p.a 0 = -1) && decide (e.getD p.b 0 = -1)) (fun _ => ())
    have h2 := congrArg List.length h1
    rw [List.length_map, List.length_map] at h2
    have h3 : ((heldM p few).filter fun e => decide (e.getD p.a 0 = -1) && decide (e.getD p.b 0 = -1)).length = ((lotsOf p.n (few : Int)).filter fun s => decide ((lholdersM p.d s).getD p.a 0 = -1) && decide ((lholdersM p.d s).getD p.b 0 = -1)).length := by
      unfold heldM
      rw [List.filter_map, List.length_map]
      rfl
    have h4 := f_both p.n ok.n3 ok.n1 p.d ok.hd few hf p.a ok.an p.b ok.bn
    unfold lbothC at h4
    refine ⟨D2, ws, rfl, .inl (SqL.of hws), ?_⟩
    have h5 : ((ws.length : Nat) : Int) = bothC p.d (p.a : Int) (p.b : Int) (lotsOf p.n (few : Int)) := by
      rw [← h4, ← h3, ← h2, ← hwl]
    have hσ2 := hσ.set (j := 24) (v := .int ((ws.length : Nat) : Int)) (by decide)
    rw [h5] at hσ2
    show D.nx (σ.set 24 (some (V.int ((ws.length : Nat) : Int)))) H2
    rw [h5]
    exact q _ _ ⟨p, few, ha, hs, ok, hf, hσ2, hF.ext e2, e2.lst hha, hLI.mono e2⟩
theorem law22 (B : Bt mg) (hr : Room 5 (A.deeper (envOfC "law" (defScope sLaw) s.heap.objs.size f cdv))) (CA : Cal P w K mg base 2 "_law_alike" ["_law_found", "_law_due"] (spAlike K)) (CO : Cal P w K mg base 5 "both_out" ["deputies", "many", "one", "other"] (spBothOut K P1)) (CR : Cal P w K mg base 1 "_law_ratio" ["_law_top", "_law_bottom"] (spRatio K)) :
    ∃ t, PS (lawX P w K mg base f cdv A outer s H0 E) (lawSt 22) t ∧ ∀ D σ H, Q21 K P1 P2 σ H → (∀ H', D.rt (.bl true) H') → t D σ H := by
  have hr2 : Room 2 _ := hr.mono (by decide)
  have hr1 : Room 1 _ := hr.mono (by decide)
  refine ⟨_, ps_ret (pe_c CA hr2 (by rfl) (pa_cons (pe_c CO hr (by rfl) (pa_cons (pv 3) (pa_cons (pv 12) (pa_cons (pv 7) (pa_cons (pv 8) pa_nil))))) (pa_cons (pe_c CR hr1 (by rfl) (pa_cons (pv 24) (pa_cons (pe_callB call_len_seq (by rfl) B.len PySem.boot_len (pa_cons (pv 20) pa_nil)) pa_nil))) pa_nil))), fun D σ H h q => ?_⟩
  obtain ⟨p, few, ha, hs, ok, hf, hσ, hF, hha, hLI⟩ := h
  obtain ⟨lp1, lp2⟩ := lots_pos ok hf
  have hl : hs.length = (lotsOf p.n (few : Int)).length := by
    rw [hLI.len]
    unfold heldM
    rw [List.length_map]
  have an := ok.an
  have bn := ok.bn
  refine ⟨.ref p.td, hσ.at rfl, .int (few : Int), hσ.at rfl, .int (p.a : Int), hσ.at rfl, .int (p.b : Int), hσ.at rfl, p.td, p.d, (few : Int), (p.a : Int), (p.b : Int), rfl, hF.tdT, ok.good, by omega, by rw [ok.len]; omega, by omega, by rw [ok.len]; omega, by omega, by rw [ok.len]; omega, hF.hr.g1, fun H1 v1 e1 hv1 => ?_⟩
  refine ⟨.int (bothC p.d (p.a : Int) (p.b : Int) (lotsOf p.n (few : Int))), hσ.at rfl, .ref ha, hσ.at rfl, ha, hs, rfl, .inl (SqL.of (e1.lst hha)), bothC p.d (p.a : Int) (p.b : Int) (lotsOf p.n (few : Int)), ((lotsOf p.n (few : Int)).length : Int), ?_, by omega, by omega, fun H2 v2 e2 hv2 => ?_⟩
  · rw [hl]
  refine ⟨v1, v2, bothM p.d (few : Int) (p.a : Int) (p.b : Int), rfl, hv1.mono e2, ?_, ?_, fun H3 e3 => q H3⟩
  · unfold bothM
    rw [ok.len]
    exact hv2
  · unfold bothM
    rw [rat_len]
    decide
end
end Ft
namespace Ft
open PySem PySem.Spec PyProof.Rows L2
/-! ### the law as a whole -/
structure Defs (K : PySem.W.Frag) (mg : Str → Option Value) (c1 c2 : Addr) : Prop where
  dfIsIn : Df K mg "is_in" sIsIn ["value", "least", "most"]
  dfAreDeputies : DfC K mg "are_deputies" sAreDeputies ["value"] c1
  dfNeedDeputies : Df K mg "need_deputies" sNeedDeputies ["deputies"]
  dfNeedPerson : Df K mg "need_person" sNeedPerson ["deputies", "person"]
  dfChainOf : Df K mg "chain_of" sChainOf ["deputies", "person"]
  dfHolderOf : Df K mg "holder_of" sHolderOf ["deputies", "gone", "person"]
  dfAllHolders : Df K mg "all_holders" sAllHolders ["deputies", "gone"]
  dfAllLots : Df K mg "all_lots" sAllLots ["size"]
  dfAllDeputies : Df K mg "all_deputies" sAllDeputies ["size"]
  dfRatio : Df K mg "ratio" sRatio ["top", "bottom"]
  dfMinus : Df K mg "minus" sMinus ["one", "other"]
  dfBy : Df K mg "by" sBy ["one", "other"]
  dfNeedMany : Df K mg "need_many" sNeedMany ["deputies", "many"]
  dfLotsOf : Df K mg "lots_of" sLotsOf ["deputies", "many"]
  dfNeedFew : Df K mg "need_few" sNeedFew ["size"]
  dfUnlike : Df K mg "unlike" sUnlike ["one", "other"]
  dfNeedNumber : Df K mg "need_number" sNeedNumber ["value", "least", "most"]
  dfPowered : Df K mg "powered" sPowered ["base", "many"]
  dfChoices : Df K mg "choices" sChoices ["whole", "part"]
  dfShortest : Df K mg "shortest" sShortest ["deputies"]
  dfLeastChain : Df K mg "least_chain" sLeastChain ["deputies"]
  dfSurest : Df K mg "surest" sSurest ["deputies"]
  dfLongRounds : Df K mg "long_rounds" sLongRounds ["size", "many"]
  dfSureCount : Df K mg "sure_count" sSureCount ["size", "many"]
  dfFewestOf : Df K mg "fewest_of" sFewestOf ["deputies", "many"]
  dfNeedSure : Df K mg "need_sure" sNeedSure ["deputies", "many"]
  dfFewestSure : Df K mg "fewest_sure" sFewestSure ["deputies", "many"]
  dfShowsFewestSure : Df K mg "shows_fewest_sure" sShowsFewestSure ["deputies", "many", "value"]
  dfSpread : DfC K mg "spread" sSpread ["deputies", "many"] c2
  dfBothOut : Df K mg "both_out" sBothOut ["deputies", "many", "one", "other"]
  dfLawTaken : Df K mg "_law_taken" sLawTaken ["_law_row", "_law_many"]
  dfLawAlike : Df K mg "_law_alike" sLawAlike ["_law_found", "_law_due"]
  dfLawRatio : Df K mg "_law_ratio" sLawRatio ["_law_top", "_law_bottom"]
  dfLawPlus : Df K mg "_law_plus" sLawPlus ["_law_one", "_law_other"]
  dfLawBy : Df K mg "_law_by" sLawBy ["_law_one", "_law_other"]
  dfLawDeputies : Df K mg "_law_deputies" sLawDeputies ["_law_row", "_law_size"]
  dfLawChain : Df K mg "_law_chain" sLawChain ["_law_deputies_here", "_law_person"]
  dfLawHolder : Df K mg "_law_holder" sLawHolder ["_law_deputies_here", "_law_gone", "_law_person"]
  dfLawHolders : Df K mg "_law_holders" sLawHolders ["_law_deputies_here", "_law_gone"]
  dfLawLots : Df K mg "_law_lots" sLawLots ["_law_size"]
  dfLawEvery : Df K mg "_law_every" sLawEvery ["_law_size"]
def spLaw (K : PySem.W.Frag) (P1 P2 : Addr) : Sp := fun vs H Q _ => ∃ (sc : Addr) (ns : List Int), vs = [.ref sc] ∧ SqL K H sc (ns.map V.int) ∧ GxR.TabG H P1 ∧ GxR.TabG H P2 ∧ ∀ H', Q (.bl true) H'
theorem tabB {base : Heap} {mg : Str → Option Value} {c P : Addr} (h : LamX.TabB base mg c P) : GxR.TabB base mg c P := ⟨h.code, h.bm, h.gP⟩
theorem trip_nil : TriplesOk (#[] : Array Value).toList := by trivial
theorem law_all {P : Program} {w : World} {K : PySem.W.Frag} {mg : Str → Option Value} {base : Heap} {P1 P2 c1 c2 f : Addr} {fd : FuncData} (B : Bt mg) (T : Ct mg) (D : Defs K mg c1 c2) (F : Fun K "law" "law" sLaw f fd) (TB1 : GxR.TabB base mg c1 P1) (TB2 : GxR.TabB base mg c2 P2) :
    FnOk P w K mg base CX0 6 f fd ["_law_script"] (spLaw K P1 P2) := by
  have CI := ok_isIn (P := P) (w := w) (base := base) B D.dfIsIn
  have CC := ok_chainOf (P := P) (w := w) (base := base) D.dfChainOf
  have CHo := ok_holderOf (P := P) (w := w) (base := base) D.dfHolderOf CC
  have CAh := ok_allHolders (P := P) (w := w) (base := base) B D.dfAllHolders CHo
  have CAd := ok_allDeputies (P := P) (w := w) (base := base) B D.dfAllDeputies
  have CSh := ok_shortest (P := P) (w := w) (base := base) B D.dfShortest CC
  have CPo := ok_powered (P := P) (w := w) (base := base) B D.dfPowered
  have CCh := ok_choices (P := P) (w := w) (base := base) B D.dfChoices
  have CNn := ok_needNumber (P := P) (w := w) (base := base) D.dfNeedNumber CI
  have CNf := ok_needFew (P := P) (w := w) (base := base) T D.dfNeedFew
  have CR := ok_ratio (P := P) (w := w) (base := base) T D.dfRatio
  have CMi := ok_minus (P := P) (w := w) (base := base) D.dfMinus CR
  have CB := ok_by (P := P) (w := w) (base := base) D.dfBy CR
  have CU := ok_unlike (P := P) (w := w) (base := base) B D.dfUnlike
  have CLr := ok_longRounds (P := P) (w := w) (base := base) B D.dfLongRounds CCh
  have CSc := ok_sureCount (P := P) (w := w) (base := base) B T D.dfSureCount CNn CPo CCh CLr
  have CAl := ok_allLots (P := P) (w := w) (base := base) B D.dfAllLots
  have CLl := ok_lawLots (P := P) (w := w) (base := base) B D.dfLawLots
  have CLe := ok_lawEvery (P := P) (w := w) (base := base) B D.dfLawEvery
  have CLo := ok_lotsOf (P := P) (w := w) (base := base) B D.dfLotsOf CAl
  have CAr := ok_areDeputies (P := P) (w := w) (base := base) B T D.dfAreDeputies D.dfIsIn TB1
  have CNd := ok_needDep (P := P) (w := w) (base := base) D.dfNeedDeputies CAr
  have CNp := ok_needPerson (P := P) (w := w) (base := base) B D.dfNeedPerson CI
  have CNm := ok_needMany (P := P) (w := w) (base := base) B D.dfNeedMany CI CNd
  have CNs := ok_needSure (P := P) (w := w) (base := base) B T D.dfNeedSure CI CNd CNf
  have CLc := ok_leastChain (P := P) (w := w) (base := base) D.dfLeastChain CNd CSh
  have CSu := ok_surest (P := P) (w := w) (base := base) D.dfSurest CNd CSh
  have CFo := ok_fewestOf (P := P) (w := w) (base := base) B D.dfFewestOf CAd CSh CU
  have CFs := ok_fewestSure (P := P) (w := w) (base := base) D.dfFewestSure CNs CFo
  have CSw := ok_shows (P := P) (w := w) (base := base) B D.dfShowsFewestSure CNs CFo CI CAr CSh CU
  have CBo := ok_bothOut (P := P) (w := w) (base := base) B D.dfBothOut CNm CNp CLo CHo CR
  have CTk := ok_taken (P := P) (w := w) (base := base) B D.dfLawTaken
  have CLd := ok_lawDeps (P := P) (w := w) (base := base) B D.dfLawDeputies CTk
  have CLR := ok_lawRatio (P := P) (w := w) (base := base) B D.dfLawRatio
  have CLP := ok_lawPlus (P := P) (w := w) (base := base) D.dfLawPlus CLR
  have CLB := ok_lawBy (P := P) (w := w) (base := base) D.dfLawBy CLR
  have CLch := ok_lawChain (P := P) (w := w) (base := base) B D.dfLawChain
  have CLh := ok_lawHolder (P := P) (w := w) (base := base) B D.dfLawHolder
  have CLhs := ok_lawHolders (P := P) (w := w) (base := base) B D.dfLawHolders CLh
  have CA0 := ok_alike0 (P := P) (w := w) (base := base) B D.dfLawAlike
  have CA2 := ok_alike (P := P) (w := w) (base := base) B D.dfLawAlike CA0
  have CSp := ok_spread (P := P) (w := w) (base := base) B D.dfSpread TB2 CNm CAh CLo CR CMi CB
  refine F.ok (k := 5) scLaw (fun vs H Q E h => ?_) (fun cdv A outer s H vs Q E hr h => ?_)
  · obtain ⟨sc, ns, rfl, _⟩ := h
    rfl
  · obtain ⟨sc, ns, rfl, hS, hT1, hT2, q⟩ := h
    obtain ⟨t0, p0, k0⟩ := law0 (P := P) (w := w) (K := K) (mg := mg) (base := base) (P1 := P1) (P2 := P2) (f := f) (cdv := cdv) (A := A) (outer := outer) (s := s) (H0 := H) (E := E)
    obtain ⟨t1, p1, k1⟩ := law1 (P := P) (w := w) (K := K) (mg := mg) (base := base) (P1 := P1) (P2 := P2) (f := f) (cdv := cdv) (A := A) (outer := outer) (s := s) (H0 := H) (E := E) hr CTk
    obtain ⟨t2, p2, k2⟩ := law2 (P := P) (w := w) (K := K) (mg := mg) (base := base) (P1 := P1) (P2 := P2) (f := f) (cdv := cdv) (A := A) (outer := outer) (s := s) (H0 := H) (E := E) hr CLd CLe CLl
    obtain ⟨t3, p3, k3⟩ := law3 (P := P) (w := w) (K := K) (mg := mg) (base := base) (P1 := P1) (P2 := P2) (f := f) (cdv := cdv) (A := A) (outer := outer) (s := s) (H0 := H) (E := E) hr CTk
    obtain ⟨t4, p4, k4⟩ := law4 (P := P) (w := w) (K := K) (mg := mg) (base := base) (P1 := P1) (P2 := P2) (f := f) (cdv := cdv) (A := A) (outer := outer) (s := s) (H0 := H) (E := E)
    obtain ⟨t5, p5, k5⟩ := law5 (P := P) (w := w) (K := K) (mg := mg) (base := base) (P1 := P1) (P2 := P2) (f := f) (cdv := cdv) (A := A) (outer := outer) (s := s) (H0 := H) (E := E) B hr CLhs
    obtain ⟨t6, p6, k6⟩ := law6 (P := P) (w := w) (K := K) (mg := mg) (base := base) (P1 := P1) (P2 := P2) (f := f) (cdv := cdv) (A := A) (outer := outer) (s := s) (H0 := H) (E := E) B hr CA0 CSu CLc CLch
    obtain ⟨t7, p7, k7⟩ := law7 (P := P) (w := w) (K := K) (mg := mg) (base := base) (P1 := P1) (P2 := P2) (f := f) (cdv := cdv) (A := A) (outer := outer) (s := s) (H0 := H) (E := E) hr CTk
    obtain ⟨t8, p8, k8⟩ := law8 (P := P) (w := w) (K := K) (mg := mg) (base := base) (P1 := P1) (P2 := P2) (f := f) (cdv := cdv) (A := A) (outer := outer) (s := s) (H0 := H) (E := E) B hr CA0 CSc
    obtain ⟨t9, p9, k9⟩ := law9 (P := P) (w := w) (K := K) (mg := mg) (base := base) (P1 := P1) (P2 := P2) (f := f) (cdv := cdv) (A := A) (outer := outer) (s := s) (H0 := H) (E := E) B hr
    obtain ⟨t10, p10, k10⟩ := law10 (P := P) (w := w) (K := K) (mg := mg) (base := base) (P1 := P1) (P2 := P2) (f := f) (cdv := cdv) (A := A) (outer := outer) (s := s) (H0 := H) (E := E) B
    obtain ⟨t11, p11, k11⟩ := law11 (P := P) (w := w) (K := K) (mg := mg) (base := base) (P1 := P1) (P2 := P2) (f := f) (cdv := cdv) (A := A) (outer := outer) (s := s) (H0 := H) (E := E) B hr CFs
    obtain ⟨t12, p12, k12⟩ := law12 (P := P) (w := w) (K := K) (mg := mg) (base := base) (P1 := P1) (P2 := P2) (f := f) (cdv := cdv) (A := A) (outer := outer) (s := s) (H0 := H) (E := E) hr
    obtain ⟨t13, p13, k13⟩ := law13 (P := P) (w := w) (K := K) (mg := mg) (base := base) (P1 := P1) (P2 := P2) (f := f) (cdv := cdv) (A := A) (outer := outer) (s := s) (H0 := H) (E := E) hr
    obtain ⟨t14, p14, k14⟩ := law14 (P := P) (w := w) (K := K) (mg := mg) (base := base) (P1 := P1) (P2 := P2) (f := f) (cdv := cdv) (A := A) (outer := outer) (s := s) (H0 := H) (E := E)
    obtain ⟨t15, p15, k15⟩ := law15 (P := P) (w := w) (K := K) (mg := mg) (base := base) (P1 := P1) (P2 := P2) (f := f) (cdv := cdv) (A := A) (outer := outer) (s := s) (H0 := H) (E := E) B hr CA0 CSw
    obtain ⟨t16, p16, k16⟩ := law16 (P := P) (w := w) (K := K) (mg := mg) (base := base) (P1 := P1) (P2 := P2) (f := f) (cdv := cdv) (A := A) (outer := outer) (s := s) (H0 := H) (E := E) B hr CLhs
    obtain ⟨t17, p17, k17⟩ := law17 (P := P) (w := w) (K := K) (mg := mg) (base := base) (P1 := P1) (P2 := P2) (f := f) (cdv := cdv) (A := A) (outer := outer) (s := s) (H0 := H) (E := E)
    obtain ⟨t18, p18, k18⟩ := law18 (P := P) (w := w) (K := K) (mg := mg) (base := base) (P1 := P1) (P2 := P2) (f := f) (cdv := cdv) (A := A) (outer := outer) (s := s) (H0 := H) (E := E) B hr CLR
    obtain ⟨t19, p19, k19⟩ := law19 (P := P) (w := w) (K := K) (mg := mg) (base := base) (P1 := P1) (P2 := P2) (f := f) (cdv := cdv) (A := A) (outer := outer) (s := s) (H0 := H) (E := E) B hr CLR
    obtain ⟨t20, p20, k20⟩ := law20 (P := P) (w := w) (K := K) (mg := mg) (base := base) (P1 := P1) (P2 := P2) (f := f) (cdv := cdv) (A := A) (outer := outer) (s := s) (H0 := H) (E := E) hr CA2 CSp CLP CLB
    obtain ⟨t21, p21, k21⟩ := law21 (P := P) (w := w) (K := K) (mg := mg) (base := base) (P1 := P1) (P2 := P2) (f := f) (cdv := cdv) (A := A) (outer := outer) (s := s) (H0 := H) (E := E) B
    obtain ⟨t22, p22, k22⟩ := law22 (P := P) (w := w) (K := K) (mg := mg) (base := base) (P1 := P1) (P2 := P2) (f := f) (cdv := cdv) (A := A) (outer := outer) (s := s) (H0 := H) (E := E) B hr CA2 CBo CLR
    refine ⟨_, pss_cons p0 (pss_cons p1 (pss_cons p2 (pss_cons p3 (pss_cons p4 (pss_cons p5 (pss_cons p6 (pss_cons p7 (pss_cons p8 (pss_cons p9 (pss_cons p10 (pss_cons p11 (pss_cons p12 (pss_cons p13 (pss_cons p14 (pss_cons p15 (pss_cons p16 (pss_cons p17 (pss_cons p18 (pss_cons p19 (pss_cons p20 (pss_cons p21 (pss_one p22)))))))))))))))))))))), ?_⟩
    refine k0 _ _ _ ⟨sc, ns, rfl, hS, hT1, hT2⟩ fun s1 H1 q1 => ?_
    refine k1 _ _ _ q1 fun s2 H2 q2 => ?_
    refine k2 _ _ _ q2 fun s3 H3 q3 => ?_
    refine k3 _ _ _ q3 fun s4 H4 q4 => ?_
    refine k4 _ _ _ q4 fun s5 H5 q5 => ?_
    refine k5 _ _ _ q5 fun s6 H6 q6 => ?_
    refine k6 _ _ _ q6 fun s7 H7 q7 => ?_
    refine k7 _ _ _ q7 fun s8 H8 q8 => ?_
    refine k8 _ _ _ q8 fun s9 H9 q9 => ?_
    refine k9 _ _ _ q9 fun s10 H10 q10 => ?_
    refine k10 _ _ _ q10 fun s11 H11 q11 => ?_
    refine k11 _ _ _ q11 fun s12 H12 q12 => ?_
    refine k12 _ _ _ q12 fun s13 H13 q13 => ?_
    refine k13 _ _ _ q13 fun s14 H14 q14 => ?_
    refine k14 _ _ _ q14 fun s15 H15 q15 => ?_
    refine k15 _ _ _ q15 fun s16 H16 q16 => ?_
    refine k16 _ _ _ q16 fun s17 H17 q17 => ?_
    refine k17 _ _ _ q17 fun s18 H18 q18 => ?_
    refine k18 _ _ _ q18 fun s19 H19 q19 => ?_
    refine k19 _ _ _ q19 fun s20 H20 q20 => ?_
    refine k20 _ _ _ q20 fun s21 H21 q21 => ?_
    refine k21 _ _ _ q21 fun s22 H22 q22 => ?_
    exact k22 _ _ _ q22 fun H' => q H'
/-! ### what the top has written -/
theorem all_mk {l : PySem.W.OpenLaw} {w : World} {K : PySem.W.Frag} {h : Heap} {mg : Str → Option Value} {fa : Addr} {c1 c2 P1 P2 : Addr} (X : K.In h) (G : h.Ns mainGlobals mg) (hfa : mg "law" = some (.ref fa))
    {f1 : Addr} {od1 an1 : Option Addr} {sl1 : Array (Option Value)} {oc1 kV1 dc1 pm1 cd1 ct1 : Value}
    {f2 : Addr} {od2 an2 : Option Addr} {sl2 : Array (Option Value)} {oc2 kV2 dc2 pm2 ct2 : Value}
    {f3 : Addr} {od3 an3 : Option Addr} {sl3 : Array (Option Value)} {oc3 kV3 dc3 pm3 cd3 ct3 : Value}
    {f4 : Addr} {od4 an4 : Option Addr} {sl4 : Array (Option Value)} {oc4 kV4 dc4 pm4 cd4 ct4 : Value}
    {f5 : Addr} {od5 an5 : Option Addr} {sl5 : Array (Option Value)} {oc5 kV5 dc5 pm5 cd5 ct5 : Value}
    {f6 : Addr} {od6 an6 : Option Addr} {sl6 : Array (Option Value)} {oc6 kV6 dc6 pm6 cd6 ct6 : Value}
    {f7 : Addr} {od7 an7 : Option Addr} {sl7 : Array (Option Value)} {oc7 kV7 dc7 pm7 cd7 ct7 : Value}
    {f8 : Addr} {od8 an8 : Option Addr} {sl8 : Array (Option Value)} {oc8 kV8 dc8 pm8 cd8 ct8 : Value}
    {f9 : Addr} {od9 an9 : Option Addr} {sl9 : Array (Option Value)} {oc9 kV9 dc9 pm9 cd9 ct9 : Value}
    {f10 : Addr} {od10 an10 : Option Addr} {sl10 : Array (Option Value)} {oc10 kV10 dc10 pm10 cd10 ct10 : Value}
    {f11 : Addr} {od11 an11 : Option Addr} {sl11 : Array (Option Value)} {oc11 kV11 dc11 pm11 cd11 ct11 : Value}
    {f12 : Addr} {od12 an12 : Option Addr} {sl12 : Array (Option Value)} {oc12 kV12 dc12 pm12 cd12 ct12 : Value}
    {f13 : Addr} {od13 an13 : Option Addr} {sl13 : Array (Option Value)} {oc13 kV13 dc13 pm13 cd13 ct13 : Value}
    {f14 : Addr} {od14 an14 : Option Addr} {sl14 : Array (Option Value)} {oc14 kV14 dc14 pm14 cd14 ct14 : Value}
    {f15 : Addr} {od15 an15 : Option Addr} {sl15 : Array (Option Value)} {oc15 kV15 dc15 pm15 cd15 ct15 : Value}
    {f16 : Addr} {od16 an16 : Option Addr} {sl16 : Array (Option Value)} {oc16 kV16 dc16 pm16 cd16 ct16 : Value}
    {f17 : Addr} {od17 an17 : Option Addr} {sl17 : Array (Option Value)} {oc17 kV17 dc17 pm17 cd17 ct17 : Value}
    {f18 : Addr} {od18 an18 : Option Addr} {sl18 : Array (Option Value)} {oc18 kV18 dc18 pm18 cd18 ct18 : Value}
    {f19 : Addr} {od19 an19 : Option Addr} {sl19 : Array (Option Value)} {oc19 kV19 dc19 pm19 cd19 ct19 : Value}
    {f20 : Addr} {od20 an20 : Option Addr} {sl20 : Array (Option Value)} {oc20 kV20 dc20 pm20 cd20 ct20 : Value}
    {f21 : Addr} {od21 an21 : Option Addr} {sl21 : Array (Option Value)} {oc21 kV21 dc21 pm21 cd21 ct21 : Value}
    {f22 : Addr} {od22 an22 : Option Addr} {sl22 : Array (Option Value)} {oc22 kV22 dc22 pm22 cd22 ct22 : Value}
    {f23 : Addr} {od23 an23 : Option Addr} {sl23 : Array (Option Value)} {oc23 kV23 dc23 pm23 cd23 ct23 : Value}
    {f24 : Addr} {od24 an24 : Option Addr} {sl24 : Array (Option Value)} {oc24 kV24 dc24 pm24 cd24 ct24 : Value}
    {f25 : Addr} {od25 an25 : Option Addr} {sl25 : Array (Option Value)} {oc25 kV25 dc25 pm25 cd25 ct25 : Value}
    {f26 : Addr} {od26 an26 : Option Addr} {sl26 : Array (Option Value)} {oc26 kV26 dc26 pm26 cd26 ct26 : Value}
    {f27 : Addr} {od27 an27 : Option Addr} {sl27 : Array (Option Value)} {oc27 kV27 dc27 pm27 cd27 ct27 : Value}
    {f28 : Addr} {od28 an28 : Option Addr} {sl28 : Array (Option Value)} {oc28 kV28 dc28 pm28 cd28 ct28 : Value}
    {f29 : Addr} {od29 an29 : Option Addr} {sl29 : Array (Option Value)} {oc29 kV29 dc29 pm29 ct29 : Value}
    {f30 : Addr} {od30 an30 : Option Addr} {sl30 : Array (Option Value)} {oc30 kV30 dc30 pm30 cd30 ct30 : Value}
    {f31 : Addr} {od31 an31 : Option Addr} {sl31 : Array (Option Value)} {oc31 kV31 dc31 pm31 cd31 ct31 : Value}
    {f32 : Addr} {od32 an32 : Option Addr} {sl32 : Array (Option Value)} {oc32 kV32 dc32 pm32 cd32 ct32 : Value}
    {f33 : Addr} {od33 an33 : Option Addr} {sl33 : Array (Option Value)} {oc33 kV33 dc33 pm33 cd33 ct33 : Value}
    {f34 : Addr} {od34 an34 : Option Addr} {sl34 : Array (Option Value)} {oc34 kV34 dc34 pm34 cd34 ct34 : Value}
    {f35 : Addr} {od35 an35 : Option Addr} {sl35 : Array (Option Value)} {oc35 kV35 dc35 pm35 cd35 ct35 : Value}
    {f36 : Addr} {od36 an36 : Option Addr} {sl36 : Array (Option Value)} {oc36 kV36 dc36 pm36 cd36 ct36 : Value}
    {f37 : Addr} {od37 an37 : Option Addr} {sl37 : Array (Option Value)} {oc37 kV37 dc37 pm37 cd37 ct37 : Value}
    {f38 : Addr} {od38 an38 : Option Addr} {sl38 : Array (Option Value)} {oc38 kV38 dc38 pm38 cd38 ct38 : Value}
    {f39 : Addr} {od39 an39 : Option Addr} {sl39 : Array (Option Value)} {oc39 kV39 dc39 pm39 cd39 ct39 : Value}
    {f40 : Addr} {od40 an40 : Option Addr} {sl40 : Array (Option Value)} {oc40 kV40 dc40 pm40 cd40 ct40 : Value}
    {f41 : Addr} {od41 an41 : Option Addr} {sl41 : Array (Option Value)} {oc41 kV41 dc41 pm41 cd41 ct41 : Value}
    {f42 : Addr} {od42 an42 : Option Addr} {sl42 : Array (Option Value)} {oc42 kV42 dc42 pm42 cd42 ct42 : Value}
    (a1 : PySem.W.nsIn K mainGlobals "is_in" = some (some (.ref f1))) (l1 : K.lookup f1 = some ⟨oc1, od1, .func (PySem.W.fnOf "is_in" "is_in" (defArgs sIsIn) (defBody sIsIn) (defScope sIsIn) .none kV1 dc1 pm1 an1 cd1 ct1), sl1⟩) (q1 : PySem.W.codeIn K cd1 "is_in" = true) (k1 : PySem.W.keepIn K (.ref f1) = true)
    (a2 : PySem.W.nsIn K mainGlobals "are_deputies" = some (some (.ref f2))) (l2 : K.lookup f2 = some ⟨oc2, od2, .func (PySem.W.fnOf "are_deputies" "are_deputies" (defArgs sAreDeputies) (defBody sAreDeputies) (defScope sAreDeputies) .none kV2 dc2 pm2 an2 (.ref c1) ct2), sl2⟩) (q2 : PySem.W.codeIn K (.ref c1) "are_deputies" = true) (k2 : PySem.W.keepIn K (.ref f2) = true)
    (a3 : PySem.W.nsIn K mainGlobals "need_deputies" = some (some (.ref f3))) (l3 : K.lookup f3 = some ⟨oc3, od3, .func (PySem.W.fnOf "need_deputies" "need_deputies" (defArgs sNeedDeputies) (defBody sNeedDeputies) (defScope sNeedDeputies) .none kV3 dc3 pm3 an3 cd3 ct3), sl3⟩) (q3 : PySem.W.codeIn K cd3 "need_deputies" = true) (k3 : PySem.W.keepIn K (.ref f3) = true)
    (a4 : PySem.W.nsIn K mainGlobals "need_person" = some (some (.ref f4))) (l4 : K.lookup f4 = some ⟨oc4, od4, .func (PySem.W.fnOf "need_person" "need_person" (defArgs sNeedPerson) (defBody sNeedPerson) (defScope sNeedPerson) .none kV4 dc4 pm4 an4 cd4 ct4), sl4⟩) (q4 : PySem.W.codeIn K cd4 "need_person" = true) (k4 : PySem.W.keepIn K (.ref f4) = true)
    (a5 : PySem.W.nsIn K mainGlobals "chain_of" = some (some (.ref f5))) (l5 : K.lookup f5 = some ⟨oc5, od5, .func (PySem.W.fnOf "chain_of" "chain_of" (defArgs sChainOf) (defBody sChainOf) (defScope sChainOf) .none kV5 dc5 pm5 an5 cd5 ct5), sl5⟩) (q5 : PySem.W.codeIn K cd5 "chain_of" = true) (k5 : PySem.W.keepIn K (.ref f5) = true)
    (a6 : PySem.W.nsIn K mainGlobals "holder_of" = some (some (.ref f6))) (l6 : K.lookup f6 = some ⟨oc6, od6, .func (PySem.W.fnOf "holder_of" "holder_of" (defArgs sHolderOf) (defBody sHolderOf) (defScope sHolderOf) .none kV6 dc6 pm6 an6 cd6 ct6), sl6⟩) (q6 : PySem.W.codeIn K cd6 "holder_of" = true) (k6 : PySem.W.keepIn K (.ref f6) = true)
    (a7 : PySem.W.nsIn K mainGlobals "all_holders" = some (some (.ref f7))) (l7 : K.lookup f7 = some ⟨oc7, od7, .func (PySem.W.fnOf "all_holders" "all_holders" (defArgs sAllHolders) (defBody sAllHolders) (defScope sAllHolders) .none kV7 dc7 pm7 an7 cd7 ct7), sl7⟩) (q7 : PySem.W.codeIn K cd7 "all_holders" = true) (k7 : PySem.W.keepIn K (.ref f7) = true)
    (a8 : PySem.W.nsIn K mainGlobals "all_lots" = some (some (.ref f8))) (l8 : K.lookup f8 = some ⟨oc8, od8, .func (PySem.W.fnOf "all_lots" "all_lots" (defArgs sAllLots) (defBody sAllLots) (defScope sAllLots) .none kV8 dc8 pm8 an8 cd8 ct8), sl8⟩) (q8 : PySem.W.codeIn K cd8 "all_lots" = true) (k8 : PySem.W.keepIn K (.ref f8) = true)
    (a9 : PySem.W.nsIn K mainGlobals "all_deputies" = some (some (.ref f9))) (l9 : K.lookup f9 = some ⟨oc9, od9, .func (PySem.W.fnOf "all_deputies" "all_deputies" (defArgs sAllDeputies) (defBody sAllDeputies) (defScope sAllDeputies) .none kV9 dc9 pm9 an9 cd9 ct9), sl9⟩) (q9 : PySem.W.codeIn K cd9 "all_deputies" = true) (k9 : PySem.W.keepIn K (.ref f9) = true)
    (a10 : PySem.W.nsIn K mainGlobals "ratio" = some (some (.ref f10))) (l10 : K.lookup f10 = some ⟨oc10, od10, .func (PySem.W.fnOf "ratio" "ratio" (defArgs sRatio) (defBody sRatio) (defScope sRatio) .none kV10 dc10 pm10 an10 cd10 ct10), sl10⟩) (q10 : PySem.W.codeIn K cd10 "ratio" = true) (k10 : PySem.W.keepIn K (.ref f10) = true)
    (a11 : PySem.W.nsIn K mainGlobals "minus" = some (some (.ref f11))) (l11 : K.lookup f11 = some ⟨oc11, od11, .func (PySem.W.fnOf "minus" "minus" (defArgs sMinus) (defBody sMinus) (defScope sMinus) .none kV11 dc11 pm11 an11 cd11 ct11), sl11⟩) (q11 : PySem.W.codeIn K cd11 "minus" = true) (k11 : PySem.W.keepIn K (.ref f11) = true)
    (a12 : PySem.W.nsIn K mainGlobals "by" = some (some (.ref f12))) (l12 : K.lookup f12 = some ⟨oc12, od12, .func (PySem.W.fnOf "by" "by" (defArgs sBy) (defBody sBy) (defScope sBy) .none kV12 dc12 pm12 an12 cd12 ct12), sl12⟩) (q12 : PySem.W.codeIn K cd12 "by" = true) (k12 : PySem.W.keepIn K (.ref f12) = true)
    (a13 : PySem.W.nsIn K mainGlobals "need_many" = some (some (.ref f13))) (l13 : K.lookup f13 = some ⟨oc13, od13, .func (PySem.W.fnOf "need_many" "need_many" (defArgs sNeedMany) (defBody sNeedMany) (defScope sNeedMany) .none kV13 dc13 pm13 an13 cd13 ct13), sl13⟩) (q13 : PySem.W.codeIn K cd13 "need_many" = true) (k13 : PySem.W.keepIn K (.ref f13) = true)
    (a14 : PySem.W.nsIn K mainGlobals "lots_of" = some (some (.ref f14))) (l14 : K.lookup f14 = some ⟨oc14, od14, .func (PySem.W.fnOf "lots_of" "lots_of" (defArgs sLotsOf) (defBody sLotsOf) (defScope sLotsOf) .none kV14 dc14 pm14 an14 cd14 ct14), sl14⟩) (q14 : PySem.W.codeIn K cd14 "lots_of" = true) (k14 : PySem.W.keepIn K (.ref f14) = true)
    (a15 : PySem.W.nsIn K mainGlobals "need_few" = some (some (.ref f15))) (l15 : K.lookup f15 = some ⟨oc15, od15, .func (PySem.W.fnOf "need_few" "need_few" (defArgs sNeedFew) (defBody sNeedFew) (defScope sNeedFew) .none kV15 dc15 pm15 an15 cd15 ct15), sl15⟩) (q15 : PySem.W.codeIn K cd15 "need_few" = true) (k15 : PySem.W.keepIn K (.ref f15) = true)
    (a16 : PySem.W.nsIn K mainGlobals "unlike" = some (some (.ref f16))) (l16 : K.lookup f16 = some ⟨oc16, od16, .func (PySem.W.fnOf "unlike" "unlike" (defArgs sUnlike) (defBody sUnlike) (defScope sUnlike) .none kV16 dc16 pm16 an16 cd16 ct16), sl16⟩) (q16 : PySem.W.codeIn K cd16 "unlike" = true) (k16 : PySem.W.keepIn K (.ref f16) = true)
    (a17 : PySem.W.nsIn K mainGlobals "need_number" = some (some (.ref f17))) (l17 : K.lookup f17 = some ⟨oc17, od17, .func (PySem.W.fnOf "need_number" "need_number" (defArgs sNeedNumber) (defBody sNeedNumber) (defScope sNeedNumber) .none kV17 dc17 pm17 an17 cd17 ct17), sl17⟩) (q17 : PySem.W.codeIn K cd17 "need_number" = true) (k17 : PySem.W.keepIn K (.ref f17) = true)
    (a18 : PySem.W.nsIn K mainGlobals "powered" = some (some (.ref f18))) (l18 : K.lookup f18 = some ⟨oc18, od18, .func (PySem.W.fnOf "powered" "powered" (defArgs sPowered) (defBody sPowered) (defScope sPowered) .none kV18 dc18 pm18 an18 cd18 ct18), sl18⟩) (q18 : PySem.W.codeIn K cd18 "powered" = true) (k18 : PySem.W.keepIn K (.ref f18) = true)
    (a19 : PySem.W.nsIn K mainGlobals "choices" = some (some (.ref f19))) (l19 : K.lookup f19 = some ⟨oc19, od19, .func (PySem.W.fnOf "choices" "choices" (defArgs sChoices) (defBody sChoices) (defScope sChoices) .none kV19 dc19 pm19 an19 cd19 ct19), sl19⟩) (q19 : PySem.W.codeIn K cd19 "choices" = true) (k19 : PySem.W.keepIn K (.ref f19) = true)
    (a20 : PySem.W.nsIn K mainGlobals "shortest" = some (some (.ref f20))) (l20 : K.lookup f20 = some ⟨oc20, od20, .func (PySem.W.fnOf "shortest" "shortest" (defArgs sShortest) (defBody sShortest) (defScope sShortest) .none kV20 dc20 pm20 an20 cd20 ct20), sl20⟩) (q20 : PySem.W.codeIn K cd20 "shortest" = true) (k20 : PySem.W.keepIn K (.ref f20) = true)
    (a21 : PySem.W.nsIn K mainGlobals "least_chain" = some (some (.ref f21))) (l21 : K.lookup f21 = some ⟨oc21, od21, .func (PySem.W.fnOf "least_chain" "least_chain" (defArgs sLeastChain) (defBody sLeastChain) (defScope sLeastChain) .none kV21 dc21 pm21 an21 cd21 ct21), sl21⟩) (q21 : PySem.W.codeIn K cd21 "least_chain" = true) (k21 : PySem.W.keepIn K (.ref f21) = true)
    (a22 : PySem.W.nsIn K mainGlobals "surest" = some (some (.ref f22))) (l22 : K.lookup f22 = some ⟨oc22, od22, .func (PySem.W.fnOf "surest" "surest" (defArgs sSurest) (defBody sSurest) (defScope sSurest) .none kV22 dc22 pm22 an22 cd22 ct22), sl22⟩) (q22 : PySem.W.codeIn K cd22 "surest" = true) (k22 : PySem.W.keepIn K (.ref f22) = true)
    (a23 : PySem.W.nsIn K mainGlobals "long_rounds" = some (some (.ref f23))) (l23 : K.lookup f23 = some ⟨oc23, od23, .func (PySem.W.fnOf "long_rounds" "long_rounds" (defArgs sLongRounds) (defBody sLongRounds) (defScope sLongRounds) .none kV23 dc23 pm23 an23 cd23 ct23), sl23⟩) (q23 : PySem.W.codeIn K cd23 "long_rounds" = true) (k23 : PySem.W.keepIn K (.ref f23) = true)
    (a24 : PySem.W.nsIn K mainGlobals "sure_count" = some (some (.ref f24))) (l24 : K.lookup f24 = some ⟨oc24, od24, .func (PySem.W.fnOf "sure_count" "sure_count" (defArgs sSureCount) (defBody sSureCount) (defScope sSureCount) .none kV24 dc24 pm24 an24 cd24 ct24), sl24⟩) (q24 : PySem.W.codeIn K cd24 "sure_count" = true) (k24 : PySem.W.keepIn K (.ref f24) = true)
    (a25 : PySem.W.nsIn K mainGlobals "fewest_of" = some (some (.ref f25))) (l25 : K.lookup f25 = some ⟨oc25, od25, .func (PySem.W.fnOf "fewest_of" "fewest_of" (defArgs sFewestOf) (defBody sFewestOf) (defScope sFewestOf) .none kV25 dc25 pm25 an25 cd25 ct25), sl25⟩) (q25 : PySem.W.codeIn K cd25 "fewest_of" = true) (k25 : PySem.W.keepIn K (.ref f25) = true)
    (a26 : PySem.W.nsIn K mainGlobals "need_sure" = some (some (.ref f26))) (l26 : K.lookup f26 = some ⟨oc26, od26, .func (PySem.W.fnOf "need_sure" "need_sure" (defArgs sNeedSure) (defBody sNeedSure) (defScope sNeedSure) .none kV26 dc26 pm26 an26 cd26 ct26), sl26⟩) (q26 : PySem.W.codeIn K cd26 "need_sure" = true) (k26 : PySem.W.keepIn K (.ref f26) = true)
    (a27 : PySem.W.nsIn K mainGlobals "fewest_sure" = some (some (.ref f27))) (l27 : K.lookup f27 = some ⟨oc27, od27, .func (PySem.W.fnOf "fewest_sure" "fewest_sure" (defArgs sFewestSure) (defBody sFewestSure) (defScope sFewestSure) .none kV27 dc27 pm27 an27 cd27 ct27), sl27⟩) (q27 : PySem.W.codeIn K cd27 "fewest_sure" = true) (k27 : PySem.W.keepIn K (.ref f27) = true)
    (a28 : PySem.W.nsIn K mainGlobals "shows_fewest_sure" = some (some (.ref f28))) (l28 : K.lookup f28 = some ⟨oc28, od28, .func (PySem.W.fnOf "shows_fewest_sure" "shows_fewest_sure" (defArgs sShowsFewestSure) (defBody sShowsFewestSure) (defScope sShowsFewestSure) .none kV28 dc28 pm28 an28 cd28 ct28), sl28⟩) (q28 : PySem.W.codeIn K cd28 "shows_fewest_sure" = true) (k28 : PySem.W.keepIn K (.ref f28) = true)
    (a29 : PySem.W.nsIn K mainGlobals "spread" = some (some (.ref f29))) (l29 : K.lookup f29 = some ⟨oc29, od29, .func (PySem.W.fnOf "spread" "spread" (defArgs sSpread) (defBody sSpread) (defScope sSpread) .none kV29 dc29 pm29 an29 (.ref c2) ct29), sl29⟩) (q29 : PySem.W.codeIn K (.ref c2) "spread" = true) (k29 : PySem.W.keepIn K (.ref f29) = true)
    (a30 : PySem.W.nsIn K mainGlobals "both_out" = some (some (.ref f30))) (l30 : K.lookup f30 = some ⟨oc30, od30, .func (PySem.W.fnOf "both_out" "both_out" (defArgs sBothOut) (defBody sBothOut) (defScope sBothOut) .none kV30 dc30 pm30 an30 cd30 ct30), sl30⟩) (q30 : PySem.W.codeIn K cd30 "both_out" = true) (k30 : PySem.W.keepIn K (.ref f30) = true)
    (a31 : PySem.W.nsIn K mainGlobals "_law_taken" = some (some (.ref f31))) (l31 : K.lookup f31 = some ⟨oc31, od31, .func (PySem.W.fnOf "_law_taken" "_law_taken" (defArgs sLawTaken) (defBody sLawTaken) (defScope sLawTaken) .none kV31 dc31 pm31 an31 cd31 ct31), sl31⟩) (q31 : PySem.W.codeIn K cd31 "_law_taken" = true) (k31 : PySem.W.keepIn K (.ref f31) = true)
    (a32 : PySem.W.nsIn K mainGlobals "_law_alike" = some (some (.ref f32))) (l32 : K.lookup f32 = some ⟨oc32, od32, .func (PySem.W.fnOf "_law_alike" "_law_alike" (defArgs sLawAlike) (defBody sLawAlike) (defScope sLawAlike) .none kV32 dc32 pm32 an32 cd32 ct32), sl32⟩) (q32 : PySem.W.codeIn K cd32 "_law_alike" = true) (k32 : PySem.W.keepIn K (.ref f32) = true)
    (a33 : PySem.W.nsIn K mainGlobals "_law_ratio" = some (some (.ref f33))) (l33 : K.lookup f33 = some ⟨oc33, od33, .func (PySem.W.fnOf "_law_ratio" "_law_ratio" (defArgs sLawRatio) (defBody sLawRatio) (defScope sLawRatio) .none kV33 dc33 pm33 an33 cd33 ct33), sl33⟩) (q33 : PySem.W.codeIn K cd33 "_law_ratio" = true) (k33 : PySem.W.keepIn K (.ref f33) = true)
    (a34 : PySem.W.nsIn K mainGlobals "_law_plus" = some (some (.ref f34))) (l34 : K.lookup f34 = some ⟨oc34, od34, .func (PySem.W.fnOf "_law_plus" "_law_plus" (defArgs sLawPlus) (defBody sLawPlus) (defScope sLawPlus) .none kV34 dc34 pm34 an34 cd34 ct34), sl34⟩) (q34 : PySem.W.codeIn K cd34 "_law_plus" = true) (k34 : PySem.W.keepIn K (.ref f34) = true)
    (a35 : PySem.W.nsIn K mainGlobals "_law_by" = some (some (.ref f35))) (l35 : K.lookup f35 = some ⟨oc35, od35, .func (PySem.W.fnOf "_law_by" "_law_by" (defArgs sLawBy) (defBody sLawBy) (defScope sLawBy) .none kV35 dc35 pm35 an35 cd35 ct35), sl35⟩) (q35 : PySem.W.codeIn K cd35 "_law_by" = true) (k35 : PySem.W.keepIn K (.ref f35) = true)
    (a36 : PySem.W.nsIn K mainGlobals "_law_deputies" = some (some (.ref f36))) (l36 : K.lookup f36 = some ⟨oc36, od36, .func (PySem.W.fnOf "_law_deputies" "_law_deputies" (defArgs sLawDeputies) (defBody sLawDeputies) (defScope sLawDeputies) .none kV36 dc36 pm36 an36 cd36 ct36), sl36⟩) (q36 : PySem.W.codeIn K cd36 "_law_deputies" = true) (k36 : PySem.W.keepIn K (.ref f36) = true)
    (a37 : PySem.W.nsIn K mainGlobals "_law_chain" = some (some (.ref f37))) (l37 : K.lookup f37 = some ⟨oc37, od37, .func (PySem.W.fnOf "_law_chain" "_law_chain" (defArgs sLawChain) (defBody sLawChain) (defScope sLawChain) .none kV37 dc37 pm37 an37 cd37 ct37), sl37⟩) (q37 : PySem.W.codeIn K cd37 "_law_chain" = true) (k37 : PySem.W.keepIn K (.ref f37) = true)
    (a38 : PySem.W.nsIn K mainGlobals "_law_holder" = some (some (.ref f38))) (l38 : K.lookup f38 = some ⟨oc38, od38, .func (PySem.W.fnOf "_law_holder" "_law_holder" (defArgs sLawHolder) (defBody sLawHolder) (defScope sLawHolder) .none kV38 dc38 pm38 an38 cd38 ct38), sl38⟩) (q38 : PySem.W.codeIn K cd38 "_law_holder" = true) (k38 : PySem.W.keepIn K (.ref f38) = true)
    (a39 : PySem.W.nsIn K mainGlobals "_law_holders" = some (some (.ref f39))) (l39 : K.lookup f39 = some ⟨oc39, od39, .func (PySem.W.fnOf "_law_holders" "_law_holders" (defArgs sLawHolders) (defBody sLawHolders) (defScope sLawHolders) .none kV39 dc39 pm39 an39 cd39 ct39), sl39⟩) (q39 : PySem.W.codeIn K cd39 "_law_holders" = true) (k39 : PySem.W.keepIn K (.ref f39) = true)
    (a40 : PySem.W.nsIn K mainGlobals "_law_lots" = some (some (.ref f40))) (l40 : K.lookup f40 = some ⟨oc40, od40, .func (PySem.W.fnOf "_law_lots" "_law_lots" (defArgs sLawLots) (defBody sLawLots) (defScope sLawLots) .none kV40 dc40 pm40 an40 cd40 ct40), sl40⟩) (q40 : PySem.W.codeIn K cd40 "_law_lots" = true) (k40 : PySem.W.keepIn K (.ref f40) = true)
    (a41 : PySem.W.nsIn K mainGlobals "_law_every" = some (some (.ref f41))) (l41 : K.lookup f41 = some ⟨oc41, od41, .func (PySem.W.fnOf "_law_every" "_law_every" (defArgs sLawEvery) (defBody sLawEvery) (defScope sLawEvery) .none kV41 dc41 pm41 an41 cd41 ct41), sl41⟩) (q41 : PySem.W.codeIn K cd41 "_law_every" = true) (k41 : PySem.W.keepIn K (.ref f41) = true)
    (a42 : PySem.W.nsIn K mainGlobals "law" = some (some (.ref f42))) (l42 : K.lookup f42 = some ⟨oc42, od42, .func (PySem.W.fnOf "law" "law" (defArgs sLaw) (defBody sLaw) (defScope sLaw) .none kV42 dc42 pm42 an42 cd42 ct42), sl42⟩) (q42 : PySem.W.codeIn K cd42 "law" = true) (k42 : PySem.W.keepIn K (.ref f42) = true)
    (z1 : PySem.W.nsIn K mainGlobals "isinstance" = some none)
    (z2 : PySem.W.nsIn K mainGlobals "int" = some none)
    (z3 : PySem.W.nsIn K mainGlobals "bool" = some none)
    (z4 : PySem.W.nsIn K mainGlobals "len" = some none)
    (z5 : PySem.W.nsIn K mainGlobals "range" = some none)
    (z6 : PySem.W.nsIn K mainGlobals "sorted" = some none)
    (z7 : PySem.W.nsIn K mainGlobals "all" = some none)
    (z8 : PySem.W.nsIn K mainGlobals "enumerate" = some none)
    (z9 : PySem.W.nsIn K mainGlobals "min" = some none)
    (z10 : PySem.W.nsIn K mainGlobals "sum" = some none)
    (z11 : PySem.W.nsIn K mainGlobals "list" = some none)
    (z12 : PySem.W.nsIn K mainGlobals "tuple" = some none)
    (z13 : PySem.W.nsIn K mainGlobals "zip" = some none)
    (z14 : PySem.W.nsIn K mainGlobals "str" = some none)
    (z15 : PySem.W.nsIn K mainGlobals "abs" = some none)
    {tk1 tk2 tk3 tk4 : Tok}
    (y1 : PySem.W.nsIn K mainGlobals "MOST_PEOPLE" = some (some (.int 6 tk1)))
    (y2 : PySem.W.nsIn K mainGlobals "MOST_FITTED" = some (some (.int 4 tk2)))
    (y3 : PySem.W.nsIn K mainGlobals "MOST_COUNTED" = some (some (.int 60 tk3)))
    (y4 : PySem.W.nsIn K mainGlobals "MOST_SURE" = some (some (.int 3 tk4)))
    (yg : PySem.W.nsIn K mainGlobals "gcd" = some (some (.builtin "math.gcd")))
    (n1 : K.lookup P1 = none) (n2 : K.lookup P2 = none) (hd1 : PySem.W.CodeHd h c1 P1 ∧ h.get? P1 = some (PySem.W.tabObj #[])) (hd2 : PySem.W.CodeHd h c2 P2 ∧ h.get? P2 = some (PySem.W.tabObj #[])) :
    LamX.LawAtS l w K CX0 6 63 "_law_script" mg fa h := by
  have e := hfa.symm.trans (PySem.W.mg_of X G a42)
  cases e
  have F1 := fun_mk (st := sIsIn) l1 q1 k1
  have b1 := F1.binds (ps := ["value", "least", "most"]) fun _ _ _ _ _ _ us hl => match us, hl with | [_, _, _], _ => rfl
  have F2 := fun_mk (st := sAreDeputies) l2 q2 k2
  have b2 : Binds K (PySem.W.fnOf "are_deputies" "are_deputies" (defArgs sAreDeputies) (defBody sAreDeputies) (defScope sAreDeputies) .none kV2 dc2 pm2 an2 (.ref c1) ct2) ["value"] [] := .all fun us hl => match us, hl with | [_], _ => rfl
  have F3 := fun_mk (st := sNeedDeputies) l3 q3 k3
  have b3 := F3.binds (ps := ["deputies"]) fun _ _ _ _ _ _ us hl => match us, hl with | [_], _ => rfl
  have F4 := fun_mk (st := sNeedPerson) l4 q4 k4
  have b4 := F4.binds (ps := ["deputies", "person"]) fun _ _ _ _ _ _ us hl => match us, hl with | [_, _], _ => rfl
  have F5 := fun_mk (st := sChainOf) l5 q5 k5
  have b5 := F5.binds (ps := ["deputies", "person"]) fun _ _ _ _ _ _ us hl => match us, hl with | [_, _], _ => rfl
  have F6 := fun_mk (st := sHolderOf) l6 q6 k6
  have b6 := F6.binds (ps := ["deputies", "gone", "person"]) fun _ _ _ _ _ _ us hl => match us, hl with | [_, _, _], _ => rfl
  have F7 := fun_mk (st := sAllHolders) l7 q7 k7
  have b7 := F7.binds (ps := ["deputies", "gone"]) fun _ _ _ _ _ _ us hl => match us, hl with | [_, _], _ => rfl
  have F8 := fun_mk (st := sAllLots) l8 q8 k8
  have b8 := F8.binds (ps := ["size"]) fun _ _ _ _ _ _ us hl => match us, hl with | [_], _ => rfl
  have F9 := fun_mk (st := sAllDeputies) l9 q9 k9
  have b9 := F9.binds (ps := ["size"]) fun _ _ _ _ _ _ us hl => match us, hl with | [_], _ => rfl
  have F10 := fun_mk (st := sRatio) l10 q10 k10
  have b10 := F10.binds (ps := ["top", "bottom"]) fun _ _ _ _ _ _ us hl => match us, hl with | [_, _], _ => rfl
  have F11 := fun_mk (st := sMinus) l11 q11 k11
  have b11 := F11.binds (ps := ["one", "other"]) fun _ _ _ _ _ _ us hl => match us, hl with | [_, _], _ => rfl
  have F12 := fun_mk (st := sBy) l12 q12 k12
  have b12 := F12.binds (ps := ["one", "other"]) fun _ _ _ _ _ _ us hl => match us, hl with | [_, _], _ => rfl
  have F13 := fun_mk (st := sNeedMany) l13 q13 k13
  have b13 := F13.binds (ps := ["deputies", "many"]) fun _ _ _ _ _ _ us hl => match us, hl with | [_, _], _ => rfl
  have F14 := fun_mk (st := sLotsOf) l14 q14 k14
  have b14 := F14.binds (ps := ["deputies", "many"]) fun _ _ _ _ _ _ us hl => match us, hl with | [_, _], _ => rfl
  have F15 := fun_mk (st := sNeedFew) l15 q15 k15
  have b15 := F15.binds (ps := ["size"]) fun _ _ _ _ _ _ us hl => match us, hl with | [_], _ => rfl
  have F16 := fun_mk (st := sUnlike) l16 q16 k16
  have b16 := F16.binds (ps := ["one", "other"]) fun _ _ _ _ _ _ us hl => match us, hl with | [_, _], _ => rfl
  have F17 := fun_mk (st := sNeedNumber) l17 q17 k17
  have b17 := F17.binds (ps := ["value", "least", "most"]) fun _ _ _ _ _ _ us hl => match us, hl with | [_, _, _], _ => rfl
  have F18 := fun_mk (st := sPowered) l18 q18 k18
  have b18 := F18.binds (ps := ["base", "many"]) fun _ _ _ _ _ _ us hl => match us, hl with | [_, _], _ => rfl
  have F19 := fun_mk (st := sChoices) l19 q19 k19
  have b19 := F19.binds (ps := ["whole", "part"]) fun _ _ _ _ _ _ us hl => match us, hl with | [_, _], _ => rfl
  have F20 := fun_mk (st := sShortest) l20 q20 k20
  have b20 := F20.binds (ps := ["deputies"]) fun _ _ _ _ _ _ us hl => match us, hl with | [_], _ => rfl
  have F21 := fun_mk (st := sLeastChain) l21 q21 k21
  have b21 := F21.binds (ps := ["deputies"]) fun _ _ _ _ _ _ us hl => match us, hl with | [_], _ => rfl
  have F22 := fun_mk (st := sSurest) l22 q22 k22
  have b22 := F22.binds (ps := ["deputies"]) fun _ _ _ _ _ _ us hl => match us, hl with | [_], _ => rfl
  have F23 := fun_mk (st := sLongRounds) l23 q23 k23
  have b23 := F23.binds (ps := ["size", "many"]) fun _ _ _ _ _ _ us hl => match us, hl with | [_, _], _ => rfl
  have F24 := fun_mk (st := sSureCount) l24 q24 k24
  have b24 := F24.binds (ps := ["size", "many"]) fun _ _ _ _ _ _ us hl => match us, hl with | [_, _], _ => rfl
  have F25 := fun_mk (st := sFewestOf) l25 q25 k25
  have b25 := F25.binds (ps := ["deputies", "many"]) fun _ _ _ _ _ _ us hl => match us, hl with | [_, _], _ => rfl
  have F26 := fun_mk (st := sNeedSure) l26 q26 k26
  have b26 := F26.binds (ps := ["deputies", "many"]) fun _ _ _ _ _ _ us hl => match us, hl with | [_, _], _ => rfl
  have F27 := fun_mk (st := sFewestSure) l27 q27 k27
  have b27 := F27.binds (ps := ["deputies", "many"]) fun _ _ _ _ _ _ us hl => match us, hl with | [_, _], _ => rfl
  have F28 := fun_mk (st := sShowsFewestSure) l28 q28 k28
  have b28 := F28.binds (ps := ["deputies", "many", "value"]) fun _ _ _ _ _ _ us hl => match us, hl with | [_, _, _], _ => rfl
  have F29 := fun_mk (st := sSpread) l29 q29 k29
  have b29 : Binds K (PySem.W.fnOf "spread" "spread" (defArgs sSpread) (defBody sSpread) (defScope sSpread) .none kV29 dc29 pm29 an29 (.ref c2) ct29) ["deputies", "many"] [] := .all fun us hl => match us, hl with | [_, _], _ => rfl
  have F30 := fun_mk (st := sBothOut) l30 q30 k30
  have b30 := F30.binds (ps := ["deputies", "many", "one", "other"]) fun _ _ _ _ _ _ us hl => match us, hl with | [_, _, _, _], _ => rfl
  have F31 := fun_mk (st := sLawTaken) l31 q31 k31
  have b31 := F31.binds (ps := ["_law_row", "_law_many"]) fun _ _ _ _ _ _ us hl => match us, hl with | [_, _], _ => rfl
  have F32 := fun_mk (st := sLawAlike) l32 q32 k32
  have b32 := F32.binds (ps := ["_law_found", "_law_due"]) fun _ _ _ _ _ _ us hl => match us, hl with | [_, _], _ => rfl
  have F33 := fun_mk (st := sLawRatio) l33 q33 k33
  have b33 := F33.binds (ps := ["_law_top", "_law_bottom"]) fun _ _ _ _ _ _ us hl => match us, hl with | [_, _], _ => rfl
  have F34 := fun_mk (st := sLawPlus) l34 q34 k34
  have b34 := F34.binds (ps := ["_law_one", "_law_other"]) fun _ _ _ _ _ _ us hl => match us, hl with | [_, _], _ => rfl
  have F35 := fun_mk (st := sLawBy) l35 q35 k35
  have b35 := F35.binds (ps := ["_law_one", "_law_other"]) fun _ _ _ _ _ _ us hl => match us, hl with | [_, _], _ => rfl
  have F36 := fun_mk (st := sLawDeputies) l36 q36 k36
  have b36 := F36.binds (ps := ["_law_row", "_law_size"]) fun _ _ _ _ _ _ us hl => match us, hl with | [_, _], _ => rfl
  have F37 := fun_mk (st := sLawChain) l37 q37 k37
  have b37 := F37.binds (ps := ["_law_deputies_here", "_law_person"]) fun _ _ _ _ _ _ us hl => match us, hl with | [_, _], _ => rfl
  have F38 := fun_mk (st := sLawHolder) l38 q38 k38
  have b38 := F38.binds (ps := ["_law_deputies_here", "_law_gone", "_law_person"]) fun _ _ _ _ _ _ us hl => match us, hl with | [_, _, _], _ => rfl
  have F39 := fun_mk (st := sLawHolders) l39 q39 k39
  have b39 := F39.binds (ps := ["_law_deputies_here", "_law_gone"]) fun _ _ _ _ _ _ us hl => match us, hl with | [_, _], _ => rfl
  have F40 := fun_mk (st := sLawLots) l40 q40 k40
  have b40 := F40.binds (ps := ["_law_size"]) fun _ _ _ _ _ _ us hl => match us, hl with | [_], _ => rfl
  have F41 := fun_mk (st := sLawEvery) l41 q41 k41
  have b41 := F41.binds (ps := ["_law_size"]) fun _ _ _ _ _ _ us hl => match us, hl with | [_], _ => rfl
  have F42 := fun_mk (st := sLaw) l42 q42 k42
  have b42 := F42.binds (ps := ["_law_script"]) fun _ _ _ _ _ _ us hl => match us, hl with | [_], _ => rfl
  have DD : Defs K mg c1 c2 := ⟨⟨f1, _, F1, b1, PySem.W.mg_of X G a1⟩,
    ⟨f2, _, _, _, _, _, _, _, _, l2, q2, k2, b2, PySem.W.mg_of X G a2⟩,
    ⟨f3, _, F3, b3, PySem.W.mg_of X G a3⟩,
    ⟨f4, _, F4, b4, PySem.W.mg_of X G a4⟩,
    ⟨f5, _, F5, b5, PySem.W.mg_of X G a5⟩,
    ⟨f6, _, F6, b6, PySem.W.mg_of X G a6⟩,
    ⟨f7, _, F7, b7, PySem.W.mg_of X G a7⟩,
    ⟨f8, _, F8, b8, PySem.W.mg_of X G a8⟩,
    ⟨f9, _, F9, b9, PySem.W.mg_of X G a9⟩,
    ⟨f10, _, F10, b10, PySem.W.mg_of X G a10⟩,
    ⟨f11, _, F11, b11, PySem.W.mg_of X G a11⟩,
    ⟨f12, _, F12, b12, PySem.W.mg_of X G a12⟩,
    ⟨f13, _, F13, b13, PySem.W.mg_of X G a13⟩,
    ⟨f14, _, F14, b14, PySem.W.mg_of X G a14⟩,
    ⟨f15, _, F15, b15, PySem.W.mg_of X G a15⟩,
    ⟨f16, _, F16, b16, PySem.W.mg_of X G a16⟩,
    ⟨f17, _, F17, b17, PySem.W.mg_of X G a17⟩,
    ⟨f18, _, F18, b18, PySem.W.mg_of X G a18⟩,
    ⟨f19, _, F19, b19, PySem.W.mg_of X G a19⟩,
    ⟨f20, _, F20, b20, PySem.W.mg_of X G a20⟩,
    ⟨f21, _, F21, b21, PySem.W.mg_of X G a21⟩,
    ⟨f22, _, F22, b22, PySem.W.mg_of X G a22⟩,
    ⟨f23, _, F23, b23, PySem.W.mg_of X G a23⟩,
    ⟨f24, _, F24, b24, PySem.W.mg_of X G a24⟩,
    ⟨f25, _, F25, b25, PySem.W.mg_of X G a25⟩,
    ⟨f26, _, F26, b26, PySem.W.mg_of X G a26⟩,
    ⟨f27, _, F27, b27, PySem.W.mg_of X G a27⟩,
    ⟨f28, _, F28, b28, PySem.W.mg_of X G a28⟩,
    ⟨f29, _, _, _, _, _, _, _, _, l29, q29, k29, b29, PySem.W.mg_of X G a29⟩,
    ⟨f30, _, F30, b30, PySem.W.mg_of X G a30⟩,
    ⟨f31, _, F31, b31, PySem.W.mg_of X G a31⟩,
    ⟨f32, _, F32, b32, PySem.W.mg_of X G a32⟩,
    ⟨f33, _, F33, b33, PySem.W.mg_of X G a33⟩,
    ⟨f34, _, F34, b34, PySem.W.mg_of X G a34⟩,
    ⟨f35, _, F35, b35, PySem.W.mg_of X G a35⟩,
    ⟨f36, _, F36, b36, PySem.W.mg_of X G a36⟩,
    ⟨f37, _, F37, b37, PySem.W.mg_of X G a37⟩,
    ⟨f38, _, F38, b38, PySem.W.mg_of X G a38⟩,
    ⟨f39, _, F39, b39, PySem.W.mg_of X G a39⟩,
    ⟨f40, _, F40, b40, PySem.W.mg_of X G a40⟩,
    ⟨f41, _, F41, b41, PySem.W.mg_of X G a41⟩⟩
  have BB : Bt mg := ⟨PySem.W.mg_none_of X G z1, PySem.W.mg_none_of X G z2, PySem.W.mg_none_of X G z3, PySem.W.mg_none_of X G z4, PySem.W.mg_none_of X G z5, PySem.W.mg_none_of X G z6, PySem.W.mg_none_of X G z7, PySem.W.mg_none_of X G z8, PySem.W.mg_none_of X G z9, PySem.W.mg_none_of X G z10, PySem.W.mg_none_of X G z11, PySem.W.mg_none_of X G z12, PySem.W.mg_none_of X G z13, PySem.W.mg_none_of X G z14, PySem.W.mg_none_of X G z15⟩
  have TT : Ct mg := ⟨⟨tk1, PySem.W.mg_of X G y1⟩, ⟨tk2, PySem.W.mg_of X G y2⟩, ⟨tk3, PySem.W.mg_of X G y3⟩, ⟨tk4, PySem.W.mg_of X G y4⟩, PySem.W.mg_of X G yg⟩
  refine ⟨PySem.W.fnOf "law" "law" (defArgs sLaw) (defBody sLaw) (defScope sLaw) .none kV42 dc42 pm42 an42 cd42 ct42, [(c1, P1), (c2, P2)], spLaw K P1 P2, ?_, ?_, ?_, fun s u => .of_eq rfl, fun H a ns _ _ hT hS => ?_, fun base _ _ hTB => ?_⟩
  · intro p hp
    rcases List.mem_cons.mp hp with rfl | hp
    · exact hd1.2
    · rcases List.mem_cons.mp hp with rfl | hp
      · exact hd2.2
      · cases hp
  · intro p hp
    rcases List.mem_cons.mp hp with rfl | hp
    · exact n1
    · rcases List.mem_cons.mp hp with rfl | hp
      · exact n2
      · cases hp
  · intro p hp
    rcases List.mem_cons.mp hp with rfl | hp
    · exact hd1.1
    · rcases List.mem_cons.mp hp with rfl | hp
      · exact hd2.1
      · cases hp
  · exact ⟨a, ns, rfl, hS, ⟨#[], hT (c1, P1) List.mem_cons_self, trip_nil⟩, ⟨#[], hT (c2, P2) (List.mem_cons_of_mem _ List.mem_cons_self), trip_nil⟩, fun _ => rfl⟩
  · exact law_all BB TT DD F42 (tabB (hTB (c1, P1) List.mem_cons_self)) (tabB (hTB (c2, P2) (List.mem_cons_of_mem _ List.mem_cons_self)))
/-! ### the end, with the tables of two defs -/
theorem walk_tabs {l : PySem.W.OpenLaw} {n k : Nat} {q : Program} {loose : List Str} {XP : (Str → Option Value) → Heap → Prop} {YP : World → Heap → Prop} {d : DefRec} {K : Params → PySem.W.Frag} {CX : World → CXT} {x : Str}
    (hn : l.most = some n) (hn2 : n ≤ sizeLine) (hdf : d.params.defaults = []) (hr : Room k callerA) (hY : ∀ (w : World) (h : Heap), YP w h → (K w.params).In h)
    (F : ∀ (w : World) (mg : Str → Option Value) (fa : Addr) (h : Heap), (K w.params).In h → h.Ns mainGlobals mg → mg d.name = some (.ref fa) →
      (∀ (y : Str) (c P : Addr), ((recsOf q).any fun e => e.name == y) = true → PySem.W.tabIn (K w.params) y = some (c, P) → PySem.W.CodeHd h c P ∧ h.get? P = some (PySem.W.tabObj #[])) → LamX.LawAtS l w (K w.params) (CX w) k n x mg fa h)
    (hCX : ∀ (w : World) (H : Hp) (s : Shared) (e : Value) (s' : Shared), CX w [] H s (fun _ _ _ => False) e s' → False) :
    PySem.W.WalkO q loose XP YP l.row.toRowW d [] (fun f vs => PySem.call f vs) := by
  refine Att.attach_callB hn hdf fun w s₀ s₁ mg mb fa o pm cd doc a vs ns G Y ho hd hcd hmg hobj hints hlen hbits hg => ?_
  have KX := hY w _ Y
  have own : ∀ (y : Str) (c P : Addr), ((recsOf q).any fun e => e.name == y) = true → PySem.W.tabIn (K w.params) y = some (c, P) → PySem.W.CodeHd s₁.heap c P ∧ s₁.heap.get? P = some (PySem.W.tabObj #[]) := fun y c P h1 h2 => by
    cases e : (recsOf q).find? (fun e => e.name == y) with
    | none =>
      obtain ⟨d2, hm, hn3⟩ := List.any_eq_true.mp h1
      have := List.find?_eq_none.mp e d2 hm
      exact absurd hn3 this
    | some d2 => exact PySem.W.tab_of G.T KX e h2
  obtain ⟨fd, cs, sp, hT, nT, C, hb, hsp, hF⟩ := F w mg fa _ KX G.T.g hmg own
  exact LamX.law_callTs KX G.T.g G.T.b G.T.builtins G.T.nolimit hg hT nT C G.T.bmain hobj hints (Nat.le_trans hlen hn2) hr hF hb (fun H hH hS => hsp H a ns hlen hbits hH hS) fun H e s' => hCX w H s₁ e s'
end Ft
open PySem PySem.W PyProof.Rows
set_option maxRecDepth 100000 in
set_option maxHeartbeats 0 in
theorem PySem.Challenge.cw_firstthere_k27_whole_sure_namings_holds : PySem.Challenge.rw_firstthere_k27_whole_sure_namings.Holds := by
  w_on; o_law; k_head; (case hw => w_witness2)
  k_fill
  refine Ft.walk_tabs (l := PySem.Challenge.rw_firstthere_k27_whole_sure_namings) (n := 63) (k := 6) (x := "_law_script") (CX := fun _ => L2.CX0) rfl (by decide) rfl ⟨rfl, by decide, by decide⟩ (fun w h Y => PySem.W.kIn_of Y) ?F (fun _ _ _ _ _ h => h)
  case F =>
    intro w mg fa h KX G hmg own
    have o1 := own "are_deputies" _ _ (by decide +kernel) rfl
    have o2 := own "spread" _ _ (by decide +kernel) rfl
    refine' Ft.all_mk KX G hmg ?a1 ?l1 ?q1 ?k1 ?a2 ?l2 ?q2 ?k2 ?a3 ?l3 ?q3 ?k3 ?a4 ?l4 ?q4 ?k4 ?a5 ?l5 ?q5 ?k5 ?a6 ?l6 ?q6 ?k6 ?a7 ?l7 ?q7 ?k7 ?a8 ?l8 ?q8 ?k8 ?a9 ?l9 ?q9 ?k9 ?a10 ?l10 ?q10 ?k10 ?a11 ?l11 ?q11 ?k11 ?a12 ?l12 ?q12 ?k12 ?a13 ?l13 ?q13 ?k13 ?a14 ?l14 ?q14 ?k14 ?a15 ?l15 ?q15 ?k15 ?a16 ?l16 ?q16 ?k16 ?a17 ?l17 ?q17 ?k17 ?a18 ?l18 ?q18 ?k18 ?a19 ?l19 ?q19 ?k19 ?a20 ?l20 ?q20 ?k20 ?a21 ?l21 ?q21 ?k21 ?a22 ?l22 ?q22 ?k22 ?a23 ?l23 ?q23 ?k23 ?a24 ?l24 ?q24 ?k24 ?a25 ?l25 ?q25 ?k25 ?a26 ?l26 ?q26 ?k26 ?a27 ?l27 ?q27 ?k27 ?a28 ?l28 ?q28 ?k28 ?a29 ?l29 ?q29 ?k29 ?a30 ?l30 ?q30 ?k30 ?a31 ?l31 ?q31 ?k31 ?a32 ?l32 ?q32 ?k32 ?a33 ?l33 ?q33 ?k33 ?a34 ?l34 ?q34 ?k34 ?a35 ?l35 ?q35 ?k35 ?a36 ?l36 ?q36 ?k36 ?a37 ?l37 ?q37 ?k37 ?a38 ?l38 ?q38 ?k38 ?a39 ?l39 ?q39 ?k39 ?a40 ?l40 ?q40 ?k40 ?a41 ?l41 ?q41 ?k41 ?a42 ?l42 ?q42 ?k42 ?z1 ?z2 ?z3 ?z4 ?z5 ?z6 ?z7 ?z8 ?z9 ?z10 ?z11 ?z12 ?z13 ?z14 ?z15 ?y1 ?y2 ?y3 ?y4 ?yg ?n1 ?n2 o1 o2
    (case a1 => k_is)
    (case l1 => k_is)
    (case q1 => k_is)
    (case k1 => k_is)
    (case a2 => k_is)
    (case l2 => k_is)
    (case q2 => k_is)
    (case k2 => k_is)
    (case a3 => k_is)
    (case l3 => k_is)
    (case q3 => k_is)
    (case k3 => k_is)
    (case a4 => k_is)
    (case l4 => k_is)
    (case q4 => k_is)
    (case k4 => k_is)
    (case a5 => k_is)
    (case l5 => k_is)
    (case q5 => k_is)
    (case k5 => k_is)
    (case a6 => k_is)
    (case l6 => k_is)
    (case q6 => k_is)
    (case k6 => k_is)
    (case a7 => k_is)
    (case l7 => k_is)
    (case q7 => k_is)
    (case k7 => k_is)
    (case a8 => k_is)
    (case l8 => k_is)
    (case q8 => k_is)
    (case k8 => k_is)
    (case a9 => k_is)
    (case l9 => k_is)
    (case q9 => k_is)
    (case k9 => k_is)
    (case a10 => k_is)
    (case l10 => k_is)
    (case q10 => k_is)
    (case k10 => k_is)
    (case a11 => k_is)
    (case l11 => k_is)
    (case q11 => k_is)
    (case k11 => k_is)
    (case a12 => k_is)
    (case l12 => k_is)
    (case q12 => k_is)
    (case k12 => k_is)
    (case a13 => k_is)
    (case l13 => k_is)
    (case q13 => k_is)
    (case k13 => k_is)
    (case a14 => k_is)
    (case l14 => k_is)
    (case q14 => k_is)
    (case k14 => k_is)
    (case a15 => k_is)
    (case l15 => k_is)
    (case q15 => k_is)
    (case k15 => k_is)
    (case a16 => k_is)
    (case l16 => k_is)
    (case q16 => k_is)
    (case k16 => k_is)
    (case a17 => k_is)
    (case l17 => k_is)
    (case q17 => k_is)
    (case k17 => k_is)
    (case a18 => k_is)
    (case l18 => k_is)
    (case q18 => k_is)
    (case k18 => k_is)
    (case a19 => k_is)
    (case l19 => k_is)
    (case q19 => k_is)
    (case k19 => k_is)
    (case a20 => k_is)
    (case l20 => k_is)
    (case q20 => k_is)
    (case k20 => k_is)
    (case a21 => k_is)
    (case l21 => k_is)
    (case q21 => k_is)
    (case k21 => k_is)
    (case a22 => k_is)
    (case l22 => k_is)
    (case q22 => k_is)
    (case k22 => k_is)
    (case a23 => k_is)
    (case l23 => k_is)
    (case q23 => k_is)
    (case k23 => k_is)
    (case a24 => k_is)
    (case l24 => k_is)
    (case q24 => k_is)
    (case k24 => k_is)
    (case a25 => k_is)
    (case l25 => k_is)
    (case q25 => k_is)
    (case k25 => k_is)
    (case a26 => k_is)
    (case l26 => k_is)
    (case q26 => k_is)
    (case k26 => k_is)
    (case a27 => k_is)
    (case l27 => k_is)
    (case q27 => k_is)
    (case k27 => k_is)
    (case a28 => k_is)
    (case l28 => k_is)
    (case q28 => k_is)
    (case k28 => k_is)
    (case a29 => k_is)
    (case l29 => k_is)
    (case q29 => k_is)
    (case k29 => k_is)
    (case a30 => k_is)
    (case l30 => k_is)
    (case q30 => k_is)
    (case k30 => k_is)
    (case a31 => k_is)
    (case l31 => k_is)
    (case q31 => k_is)
    (case k31 => k_is)
    (case a32 => k_is)
    (case l32 => k_is)
    (case q32 => k_is)
    (case k32 => k_is)
    (case a33 => k_is)
    (case l33 => k_is)
    (case q33 => k_is)
    (case k33 => k_is)
    (case a34 => k_is)
    (case l34 => k_is)
    (case q34 => k_is)
    (case k34 => k_is)
    (case a35 => k_is)
    (case l35 => k_is)
    (case q35 => k_is)
    (case k35 => k_is)
    (case a36 => k_is)
    (case l36 => k_is)
    (case q36 => k_is)
    (case k36 => k_is)
    (case a37 => k_is)
    (case l37 => k_is)
    (case q37 => k_is)
    (case k37 => k_is)
    (case a38 => k_is)
    (case l38 => k_is)
    (case q38 => k_is)
    (case k38 => k_is)
    (case a39 => k_is)
    (case l39 => k_is)
    (case q39 => k_is)
    (case k39 => k_is)
    (case a40 => k_is)
    (case l40 => k_is)
    (case q40 => k_is)
    (case k40 => k_is)
    (case a41 => k_is)
    (case l41 => k_is)
    (case q41 => k_is)
    (case k41 => k_is)
    (case a42 => k_is)
    (case l42 => k_is)
    (case q42 => k_is)
    (case k42 => k_is)
    (case z1 => k_is)
    (case z2 => k_is)
    (case z3 => k_is)
    (case z4 => k_is)
    (case z5 => k_is)
    (case z6 => k_is)
    (case z7 => k_is)
    (case z8 => k_is)
    (case z9 => k_is)
    (case z10 => k_is)
    (case z11 => k_is)
    (case z12 => k_is)
    (case z13 => k_is)
    (case z14 => k_is)
    (case z15 => k_is)
    (case y1 => k_is)
    (case y2 => k_is)
    (case y3 => k_is)
    (case y4 => k_is)
    (case yg => k_is)
    (case n1 => rfl)
    (case n2 => rfl)
