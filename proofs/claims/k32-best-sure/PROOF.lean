import PyProof.Rows.All
import Wide.All
import OpenK.AllK
import Wide.FinOn
import HandS.ForMost
import HandS.Wide
import HandS.Star
import HandS.IsInst
import HandS.Zip
import HandS.Walk
import HandS.Head0
import HandS.Head1
import HandS.Head2
import HandS.HeadHook1
import HandS.HeadHook2
import HandS.HeadHook4
import KE.GoesEnum
import KE.KDictZip
import HandS.Conv
import HandS.DictComp
import HandS.Steps
import HandS.TupAny
import HandS.Property
import HandS.TupMul
import HandS.ExcInit
import HandS.ExcOwn
import HandS.TryOnly
import HandS.Lambda
import PyProof.ExcBaseAll.ArithmeticError
import HandS.WordsExc
import HandS.Style
import PyProof.ReprRoads
import PyProof.FitsInt
import HandS.EndTab
import PySem.Challenge.RW_cornersure_k32_whole_best_and_sure_price
set_option Elab.async false
set_option linter.all false
set_option maxRecDepth 100000
/-! the ground of the walk: the text by places, defs with their promises, data in heaps -/
namespace Cs
open PySem PySem.Spec PyProof.Rows L2
/-! ### the text -/
def topS (i : Nat) : Stmt := PySem.Challenge.pw_cornersure_k32_whole_best_and_sure_price.main.body.getD i (.Pass ⟨0, 0, 0, 0⟩)
/-- a def of the top, as the top leaves it -/
structure DefAt (K : PySem.W.Frag) (mg : Str → Option Value) (x : Str) (st : Stmt) (ps : List Str) : Prop where
  ex : ∃ f fd, Fun K x x st f fd ∧ Binds K fd ps [] ∧ mg x = some (.ref f)
/-- a def of the top that keeps a promise -/
structure Cal (P : Program) (w : World) (K : PySem.W.Frag) (mg : Str → Option Value) (base : Heap) (k : Nat) (x : Str) (ps : List Str) (sp : Sp) : Prop where
  ex : ∃ f fd, FnOk P w K mg base CX0 k f fd ps sp ∧ PySem.W.keepIn K (.ref f) = true ∧ Binds K fd ps [] ∧ mg x = some (.ref f)
section
variable {P : Program} {w : World} {K : PySem.W.Frag} {mg : Str → Option Value} {base : Heap} {k : Nat} {x : Str} {st : Stmt} {ps : List Str} {sp : Sp}
theorem DefAt.cal (D : DefAt K mg x st ps) (h : ∀ f fd, Fun K x x st f fd → FnOk P w K mg base CX0 k f fd ps sp) : Cal P w K mg base k x ps sp := by
  obtain ⟨f, fd, F, b, g⟩ := D.ex
  exact ⟨f, fd, h f fd F, F.kp, b, g⟩
theorem Cal.mono {j : Nat} (C : Cal P w K mg base k x ps sp) (h : k ≤ j) : Cal P w K mg base j x ps sp := by
  obtain ⟨f, fd, F, kp, b, g⟩ := C.ex
  exact ⟨f, fd, F.mono h, kp, b, g⟩
theorem Cal.imp {sp' : Sp} (C : Cal P w K mg base k x ps sp) (h : ∀ vs H Q E, sp' vs H Q E → sp vs H Q E) : Cal P w K mg base k x ps sp' := by
  obtain ⟨f, fd, F, kp, b, g⟩ := C.ex
  exact ⟨f, fd, F.imp h, kp, b, g⟩
end
section
variable {X : Cx} {k j : Nat} {x : Str} {ps : List Str} {sp : Sp} {p pos : Pos} {e : Expr} {es : List Expr} {t : TA}
theorem pe_cal (C : Cal X.prog X.w X.K X.mg X.base k x ps sp) (hr : Room j X.A) (ha : PA X (e :: es) t) (hkj : k ≤ j := by decide) (hg : Gl X x := by rfl) (hdb : (x == ("__debug__" : Str)) = false := by decide)
    (he : starEach (e :: es) X.env = (false, eval e X.env) :: starEach es X.env := by rfl) (hpl : (backTo pos (starEach es X.env)).any (·.1) = false := by rfl) :
    PE X (.Call (.Name x p) (e :: es) [] pos) (tCall sp [] E0 t) := by
  obtain ⟨f, fd, F, kp, b, g⟩ := C.ex
  exact pe_call F (hr.mono hkj) hg g kp b .nil (fun _ _ _ _ _ _ _ h => h.elim) ha hdb he hpl
end
/-! ### heaps -/
end Cs
namespace L2
open PySem PySem.Spec PyProof.Rows
theorem Same.new {H : Hp} {p : Addr} {o : HO} (h : H p = none) : Same H (upd H p o) := fun b x e => by
  rw [upd_ne (ne_of_none e h)]
  exact e
theorem Same.tup {K : PySem.W.Frag} {H H' : Hp} {a : Addr} {xs : List V} (e : Same H H') (h : SqT K H a xs) : SqT K H' a xs := by
  rcases h with (h | ⟨o, h⟩) | h
  · exact .inl (.inl (e _ _ h))
  · exact .inl (.inr ⟨o, e _ _ h⟩)
  · exact .inr h
end L2
namespace Cs
open PySem PySem.Spec PyProof.Rows L2
/-- the heap without some addresses -/
def cutH (X : List Addr) (H : Hp) : Hp := fun b => if b ∈ X then none else H b
theorem cut_at {X : List Addr} {H : Hp} {b : Addr} {o : HO} (h : cutH X H b = some o) : H b = some o ∧ b ∉ X := by
  unfold cutH at h
  split at h
  · cases h
  · exact ⟨h, by assumption⟩
theorem cut_mk {X : List Addr} {H : Hp} {b : Addr} {o : HO} (h : H b = some o) (n : b ∉ X) : cutH X H b = some o := by
  unfold cutH
  rw [if_neg n]
  exact h
theorem cut_same {X : List Addr} {H : Hp} : Same (cutH X H) H := fun b o h => (cut_at h).1
theorem same_cut {X : List Addr} {H H' : Hp} (s : Same H H') : Same (cutH X H) (cutH X H') := fun b o h => cut_mk (s b o (cut_at h).1) (cut_at h).2
/-- the addresses of X are lists of the heap -/
def Xin (X : List Addr) (H : Hp) : Prop := ∀ b ∈ X, ∃ xs, H b = some (.lst xs)
theorem Xin.same {X : List Addr} {H H' : Hp} (x : Xin X H) (s : Same H H') : Xin X H' := fun b hb => by
  obtain ⟨xs, e⟩ := x b hb
  exact ⟨xs, s _ _ e⟩
theorem Xin.new {X : List Addr} {H : Hp} {p : Addr} (x : Xin X H) (h : H p = none) : p ∉ X := fun hp => by
  obtain ⟨xs, e⟩ := x p hp
  rw [h] at e
  cases e
theorem Xin.cons {X : List Addr} {H : Hp} {D : Addr} {xs : List V} (x : Xin X H) (h : H D = some (.lst xs)) : Xin (D :: X) H := fun b hb => by
  rcases List.mem_cons.mp hb with rfl | hb
  · exact ⟨xs, h⟩
  · exact x b hb
theorem Xin.nil {H : Hp} : Xin [] H := fun b hb => by cases hb
theorem cut_nil {H : Hp} : cutH [] H = H := by
  funext b
  unfold cutH
  rw [if_neg (by simp)]
/-- a new object is out of X -/
theorem cut_upd {X : List Addr} {H : Hp} {p : Addr} {o : HO} (n : p ∉ X) : cutH X (upd H p o) p = some o := cut_mk upd_same n
theorem cut_in {X : List Addr} {H : Hp} {p : Addr} {o : HO} (n : p ∈ X) : cutH X (upd H p o) = cutH X H := by
  funext b
  unfold cutH
  split
  · rfl
  · rw [upd_ne]
    rintro rfl
    contradiction
/-- the changes at an address of X are not seen -/
theorem cut_less {X : List Addr} {H : Hp} {D : Addr} (hD : H D = none) : Same (cutH X H) (cutH (D :: X) H) := fun b o h => by
  obtain ⟨h1, h2⟩ := cut_at h
  refine cut_mk h1 fun hb => ?_
  rcases List.mem_cons.mp hb with rfl | hb
  · rw [hD] at h1
    cases h1
  · exact h2 hb
theorem cut_more {X : List Addr} {H : Hp} {D : Addr} : Same (cutH (D :: X) H) (cutH X H) := fun b o h => by
  obtain ⟨h1, h2⟩ := cut_at h
  exact cut_mk h1 fun hb => h2 (List.mem_cons_of_mem _ hb)
/-! ### data in a heap -/
end Cs
namespace L2
open PySem PySem.Spec PyProof.Rows
mutual
theorem dp_same {K : PySem.W.Frag} {H H' : Hp} (s : Same H H') : ∀ (d : PyData) (v : V), Dp K H v d → Dp K H' v d
  | .none, _, h => by
    cases h
    exact .non
  | .bool b, _, h => by
    cases h
    exact .bl b
  | .int i, _, h => by
    cases h
    exact .int i
  | .str x, _, h => by
    cases h
    exact .str x
  | .list ds, _, h => by
    cases h with
    | lst hs ha => exact .lst (s.seq hs) (dps_same s ds _ ha)
  | .tuple ds, _, h => by
    cases h with
    | tup hs ha => exact .tup (s.tup hs) (dps_same s ds _ ha)
  | .dict _, _, h => by cases h
theorem dps_same {K : PySem.W.Frag} {H H' : Hp} (s : Same H H') : ∀ (ds : List PyData) (vs : List V), DpAll K H vs ds → DpAll K H' vs ds
  | [], _, h => by
    cases h
    exact .nil
  | d :: ds, _, h => by
    cases h with
    | cons h1 h2 => exact .cons (dp_same s d _ h1) (dps_same s ds _ h2)
end
section
variable {K : PySem.W.Frag} {H H' : Hp}
theorem Dp.same {v : V} {d : PyData} (h : Dp K H v d) (s : Same H H') : Dp K H' v d := dp_same s d v h
theorem DpAll.same {vs : List V} {ds : List PyData} (h : DpAll K H vs ds) (s : Same H H') : DpAll K H' vs ds := dps_same s ds vs h
theorem DpAll.length : ∀ {vs : List V} {ds : List PyData}, DpAll K H vs ds → vs.length = ds.length
  | _, _, .nil => rfl
  | _, _, .cons _ t => congrArg (· + 1) (DpAll.length t)
theorem DpAll.get : ∀ {vs : List V} {ds : List PyData} {i : Nat} {d : PyData}, DpAll K H vs ds → ds[i]? = some d → ∃ v, vs[i]? = some v ∧ Dp K H v d
  | _, _, _, _, .nil, e => by simp at e
  | _, _, 0, _, .cons r _, e => by
    simp at e
    subst e
    exact ⟨_, rfl, r⟩
  | _, _, i + 1, _, .cons _ t, e => by
    obtain ⟨v, h1, h2⟩ := DpAll.get (i := i) t (by simpa using e)
    exact ⟨v, by simpa using h1, h2⟩
theorem DpAll.at : ∀ {vs : List V} {ds : List PyData} {i : Nat} {v : V}, DpAll K H vs ds → vs[i]? = some v → ∃ d, ds[i]? = some d ∧ Dp K H v d
  | _, _, _, _, .nil, e => by simp at e
  | _, _, 0, _, .cons r _, e => by
    simp at e
    subst e
    exact ⟨_, rfl, r⟩
  | _, _, i + 1, _, .cons _ t, e => by
    obtain ⟨d, h1, h2⟩ := DpAll.at (i := i) t (by simpa using e)
    exact ⟨d, by simpa using h1, h2⟩
theorem DpAll.append : ∀ {vs us : List V} {ds es : List PyData}, DpAll K H vs ds → DpAll K H us es → DpAll K H (vs ++ us) (ds ++ es)
  | _, _, _, _, .nil, s => s
  | _, _, _, _, .cons r t, s => .cons r (DpAll.append t s)
theorem DpAll.ints : ∀ (ns : List Int), DpAll K H (ns.map V.int) (ns.map PyData.int)
  | [] => .nil
  | n :: r => .cons (.int n) (DpAll.ints r)
theorem DpAll.ints_eq : ∀ {vs : List V} {ns : List Int}, DpAll K H vs (ns.map PyData.int) → vs = ns.map V.int
  | _, [], h => by
    cases h
    rfl
  | _, n :: r, h => by
    cases h with
    | cons a t =>
      cases a
      rw [DpAll.ints_eq t]
      rfl
theorem Dp.list {v : V} {ds : List PyData} (h : Dp K H v (.list ds)) : ∃ a xs, v = .ref a ∧ SqL K H a xs ∧ DpAll K H xs ds := by
  cases h with
  | lst hs ha => exact ⟨_, _, rfl, hs, ha⟩
theorem Dp.tuple {v : V} {ds : List PyData} (h : Dp K H v (.tuple ds)) : ∃ a xs, v = .ref a ∧ SqT K H a xs ∧ DpAll K H xs ds := by
  cases h with
  | tup hs ha => exact ⟨_, _, rfl, hs, ha⟩
theorem Dp.int_eq {v : V} {i : Int} (h : Dp K H v (.int i)) : v = .int i := by
  cases h
  rfl
end
end L2
namespace Cs
open PySem PySem.Spec PyProof.Rows L2
/-- a fraction, as the program bears it -/
def fr (q : Rat) : PyData := .tuple [.int q.num, .int q.den]
/-- the value v is the fraction q -/
def Fr (K : PySem.W.Frag) (H : Hp) (v : V) (q : Rat) : Prop := ∃ a, v = .ref a ∧ SqT K H a [.int q.num, .int q.den]
section
variable {K : PySem.W.Frag} {H H' : Hp} {v : V} {q : Rat}
theorem Fr.dp (h : Fr K H v q) : Dp K H v (fr q) := by
  obtain ⟨a, rfl, hs⟩ := h
  exact .tup hs (.cons (.int _) (.cons (.int _) .nil))
theorem Fr.of (h : Dp K H v (fr q)) : Fr K H v q := by
  obtain ⟨a, xs, rfl, hs, ha⟩ := h.tuple
  have e := DpAll.ints_eq (ns := [q.num, (q.den : Int)]) ha
  subst e
  exact ⟨a, rfl, hs⟩
theorem Fr.same (h : Fr K H v q) (s : Same H H') : Fr K H' v q := by
  obtain ⟨a, rfl, hs⟩ := h
  exact ⟨a, rfl, s.tup hs⟩
/-- lists may be cut off beneath a fraction -/
theorem Fr.cut {X : List Addr} (h : Fr K H v q) (x : Xin X H) : Fr K (cutH X H) v q := by
  obtain ⟨a, rfl, hs⟩ := h
  refine ⟨a, rfl, ?_⟩
  have no : ∀ {u : HO}, H a = some u → (∀ xs, u ≠ .lst xs) → a ∉ X := fun e n hx => by
    obtain ⟨xs, e'⟩ := x a hx
    rw [e] at e'
    exact n xs (Option.some.inj e')
  rcases hs with (h | ⟨o, h⟩) | h
  · exact .inl (.inl (cut_mk h (no h (fun _ z => nomatch z))))
  · exact .inl (.inr ⟨o, cut_mk h (no h (fun _ z => nomatch z))⟩)
  · exact .inr h
end
end Cs
set_option Elab.async false
set_option linter.all false
set_option maxRecDepth 100000
set_option maxHeartbeats 0
/-! the top's run, and what it leaves -/
namespace Cs
open PySem PySem.Spec PyProof.Rows L2
/-! ### what is looked at -/
def dDef (x : Str) (i : Nat) : He.DefD := ⟨(x, none), x, x, defArgs (topS i), defBody (topS i), defScope (topS i), [], []⟩
def dMet (C m q : Str) (i j : Nat) : He.DefD := ⟨(C, some m), m, q, defArgs (inClass (topS i) j), defBody (inClass (topS i) j), defScope (inClass (topS i) j), [], []⟩
def fn0 : List He.DefD := [dDef "_law_aim" 106, dDef "_law_asked" 115, dDef "_law_at_most" 114, dDef "_law_body" 103, dDef "_law_cheapest" 113, dDef "_law_cuts" 111, dDef "_law_ends" 107, dDef "_law_heads" 104, dDef "_law_is_less" 99, dDef "_law_low" 97, dDef "_law_mug" 94, dDef "_law_of" 96, dDef "_law_plus" 98, dDef "_law_right" 117, dDef "_law_sip" 95, dDef "_law_some_wants" 110, dDef "_law_span" 101, dDef "_law_spots" 112, dDef "_law_stretch" 102, dDef "_law_sum" 100, dDef "_law_sure_wants" 109, dDef "_law_table" 105, dDef "_law_wants" 108, dDef "all_corners" 81, dDef "begun" 48, dDef "best_price" 91, dDef "both_rows" 77, dDef "cheapest_of" 75, dDef "check_columns" 57, dDef "check_mix" 68]
def fn1 : List He.DefD := [dDef "check_priced" 85, dDef "check_prices" 71, dDef "check_question" 84, dDef "check_rows" 59, dDef "check_table" 64, dDef "check_target" 70, dDef "common" 28, dDef "corner_rows" 76, dDef "dearest_for" 89, dDef "dearest_of" 82, dDef "ends_at" 72, dDef "is_above" 33, dDef "is_end_stretch" 56, dDef "is_fraction" 35, dDef "is_integer" 24, dDef "is_mix" 39, dDef "is_name" 25, dDef "is_row" 58, dDef "is_share_row" 37, dDef "is_stretch" 36, dDef "is_tuple_of" 26, dDef "is_whole" 23, dDef "least_row" 74, dDef "less" 44, dDef "lowest" 29, dDef "minus" 31, dDef "mix_in" 83, dDef "most_row" 73, dDef "no_prices" 78, dDef "over" 43]
def fn2 : List He.DefD := [dDef "plus" 30, dDef "possible_found" 80, dDef "possible_mix" 88, dDef "price_of" 86, dDef "settled" 46, dDef "signs_of" 41, dDef "solved" 49, dDef "sure_found" 79, dDef "sure_mix" 87, dDef "sure_price" 92, dDef "times" 32, dDef "total_of" 38, dDef "weighed" 40, dDef "without_fills" 50, dDef "worst_price" 90, dDef "_law_case_right" 116, dDef "law" 118]
def fnM : List He.DefD := [dMet "Frame" "__init__" "Frame.__init__" 45 0, dMet "Frame" "turned" "Frame.turned" 45 1, dMet "Frame" "prices" "Frame.prices" 45 2, dMet "Frame" "leaving" "Frame.leaving" 45 3, dMet "Outcome" "__init__" "Outcome.__init__" 47 0, dMet "Table" "__init__" "Table.__init__" 62 0, dMet "NotServed" "__init__" "NotServed.__init__" 15 0]
def fn : List He.DefD := fn0 ++ (fn1 ++ (fn2 ++ fnM))
def gl0 : List Str := ["_law_aim", "_law_asked", "_law_at_most", "_law_body", "_law_cheapest", "_law_cuts", "_law_ends", "_law_heads", "_law_is_less", "_law_low", "_law_mug", "_law_of", "_law_plus", "_law_right", "_law_sip", "_law_some_wants", "_law_span", "_law_spots", "_law_stretch", "_law_sum", "_law_sure_wants", "_law_table", "_law_wants", "all_corners", "begun", "best_price", "both_rows", "cheapest_of", "check_columns", "check_mix"]
def gl1 : List Str := ["check_priced", "check_prices", "check_question", "check_rows", "check_table", "check_target", "common", "corner_rows", "dearest_for", "dearest_of", "ends_at", "is_above", "is_end_stretch", "is_fraction", "is_integer", "is_mix", "is_name", "is_row", "is_share_row", "is_stretch", "is_tuple_of", "is_whole", "least_row", "less", "lowest", "minus", "mix_in", "most_row", "no_prices", "over"]
def gl2 : List Str := ["plus", "possible_found", "possible_mix", "price_of", "settled", "signs_of", "solved", "sure_found", "sure_mix", "sure_price", "times", "total_of", "weighed", "without_fills", "worst_price", "_law_case_right", "law", "ZERO", "ONE", "Frame", "Outcome", "Table", "NotServed"]
def glo : List Str := gl0 ++ gl1 ++ gl2
def free : List Str := ["isinstance", "int", "bool", "str", "tuple", "all", "len", "range", "abs", "enumerate", "zip", "list", "divmod", "repr"]
def ltrs : Str := "abcdefghijklmnopqrstuvwxyz"
def faA : List He.Fa := [.str "LETTERS" ltrs, .int "LONGEST_NAME" 8, .int "MOST_END" 10000, .int "MOST_COLUMNS" 4, .int "MOST_ROWS" 8, .int "MOST_PRICE" 1000, .cls "Frame", .noat "Frame" "lines", .noat "Frame" "basis", .cls "Outcome", .noat "Outcome" "word", .noat "Outcome" "point", .noat "Outcome" "cost", .noat "Outcome" "weights",
  .cls "Table", .noat "Table" "heads", .noat "Table" "lines", .mkr "Frame", .mkr "Outcome", .mkr "Table", .meth "Frame" "turned", .meth "Frame" "prices", .meth "Frame" "leaving", .exm "NotServed" "NotServed" true, .keep "NotServed"]
def fa : List He.Fa := glo.map .glo ++ free.map .free ++ faA
/-- the getter of a property -/
def gt (K : PySem.W.Frag) (C f : Str) : Addr := match PySem.W.recIn K (He.ma K (He.ga K C) f) "property" with
  | some (.ref g :: _) => g
  | _ => 0
def prB (K : PySem.W.Frag) (C f q : Str) : Bool := He.eqO (PySem.W.findIn K (.ref (He.ga K C)) f) (some (some (.ref (He.ma K (He.ga K C) f)))) && (He.eqO (PySem.W.specialIn K (.ref (He.ma K (He.ga K C) f)) "__get__") (some (some (.builtin "property.__get__"))) && (decide (PySem.W.takesIn K (.ref (He.ma K (He.ga K C) f)) = some true) && ((match PySem.W.recIn K (He.ma K (He.ga K C) f) "property" with
  | some (.ref _ :: _) => true
  | _ => false) && (PySem.W.keepIn K (.ref (gt K C f)) && (match K.lookup (gt K C f) with
  | some ⟨_, _, .func fd, _⟩ => PySem.W.codeIn K fd.code q && (He.dflB K fd.defaults [] && He.kwdB K fd.kwdefaults [])
  | _ => false)))))
def refsA : List Value → Bool
  | .ref _ :: r => refsA r
  | l => l == [.type "ArithmeticError", .type "Exception", .type "BaseException", .type "object"]
def nsB (K : PySem.W.Frag) (C : Addr) : Bool := match K.lookup C with
  | some ⟨.type t, _, .cls cd, sl⟩ => decide (t = "type") && (cd.hasDict && (!cd.hasDel && ((match cd.mro with
    | .ref C' :: bm => decide (C' = C) && refsA bm
    | _ => false) && (match sl.toList with
    | [_, _, _, _, some (.builtin b), _] => decide (b = "ArithmeticError.__new__")
    | _ => false))))
  | _ => false
def exB (K : PySem.W.Frag) : Bool := He.tupB K "ZERO" [.int 0, .int 1] && (He.tupB K "ONE" [.int 1, .int 1] && (
  He.eqO (PySem.W.findIn K (.ref (He.ga K "Table")) "__class__") (some (some (.builtin "object.__class__"))) && (He.eqO (PySem.W.specialIn K (.builtin "object.__class__") "__get__") (some (some (.builtin "getset_descriptor.__get__"))) && (decide (PySem.W.takesIn K (.builtin "object.__class__") = some true) && (
  decide (PySem.W.mroIn K (He.ga K "Table") (.type "object") = some true) && (decide (PySem.W.kitOne K (.ref (He.ga K "Table")) (.ref (He.ga K "Table")) = some true) && (prB K "Table" "columns" "Table.columns" && (prB K "Table" "rows" "Table.rows" && (
  nsB K (He.ga K "NotServed") && (decide (PySem.W.subIn K (.ref (He.ga K "NotServed")) (.type "BaseException") = some true) && (decide (PySem.W.typeIn K (.ref (He.ga K "NotServed")) = some (.type "type")) && (
  He.eqO (PySem.W.findIn K (.ref (He.ga K "NotServed")) "__init__") (some (some (.ref (He.ma K (He.ga K "NotServed") "__init__")))) && decide (PySem.W.typeIn K (.ref (He.ma K (He.ga K "NotServed") "__init__")) = some (.type "function"))))))))))))))
/-! ### the part of the heap -/
def stepA (g : Addr → Option Obj) (as : List Addr) : List Addr := as.flatMap fun a => match g a with
  | some o => He.refsD o
  | none => []
def asA (g : Addr → Option Obj) : Nat → List Addr → List Addr
  | 0, as => as
  | n + 1, as => as ++ asA g n (stepA g as)
def KA (g : Addr → Option Obj) : PySem.W.Frag := He.frT g (asA g 5 [mainGlobals])
def fnG (K : PySem.W.Frag) (a : Addr) : He.FnW := match K.lookup a with
  | some ⟨_, _, .func fd, _⟩ => some (fd.name, fd.qualname, fd.params, fd.body, fd.scope, fd.globals, fd.closure, fd.builtins)
  | _ => none
def valG (m : Str) (j : Nat) : He.FnW := some (m, m, defArgs (inClass (topS 62) j), .stmts (defBody (inClass (topS 62) j)), defScope (inClass (topS 62) j), mainGlobals, [], builtinsNs)
def tf : List He.Defn := [("_law_case_right", none)]
abbrev AlO : Type := (Bool × List He.FnW) × (He.FnW × He.FnW)
def obK (g : Addr → Option Obj) (K : PySem.W.Frag) : AlO := (((fa.all fun f => f.ok K) && ((fn.all fun d => d.ok K) && (exB K && He.tabsB g tf K)), fn.map fun d => He.fnW K d.at_), (fnG K (gt K "Table" "columns"), fnG K (gt K "Table" "rows")))
def valO : AlO := ((true, fn.map He.DefD.val), (some ("columns", "Table.columns", defArgs (inClass (topS 62) 2), .stmts (defBody (inClass (topS 62) 2)), defScope (inClass (topS 62) 2), mainGlobals, [], builtinsNs), some ("rows", "Table.rows", defArgs (inClass (topS 62) 3), .stmts (defBody (inClass (topS 62) 3)), defScope (inClass (topS 62) 3), mainGlobals, [], builtinsNs)))
def obG (g : Addr → Option Obj) : AlO := obK g (KA g)
/-- what the hook tells -/
structure SaysO (h : Heap) (K : PySem.W.Frag) : Prop where
  fac : ∀ f ∈ fa, f.ok K = true
  defs : ∀ d ∈ fn, He.fnW K d.at_ = d.val ∧ d.ok K = true
  ex : exB K = true
  gC : fnG K (gt K "Table" "columns") = valO.2.1
  gR : fnG K (gt K "Table" "rows") = valO.2.2
  hd : PySem.W.codeHdIn K (He.cT K ("_law_case_right", none)).1 (He.cT K ("_law_case_right", none)).2 = true
  out : K.lookup (He.cT K ("_law_case_right", none)).2 = none
  empty : h.get? (He.cT K ("_law_case_right", none)).2 = some { cls := .none, data := .fields #[] }
theorem says_of {h : Heap} (e : obG h.get? = valO) : SaysO h (KA h.get?) := by
  have e1 : ((fa.all fun f => f.ok (KA h.get?)) && ((fn.all fun d => d.ok (KA h.get?)) && (exB (KA h.get?) && He.tabsB h.get? tf (KA h.get?)))) = true := congrArg (fun z : AlO => z.1.1) e
  have e2 : (fn.map fun d => He.fnW (KA h.get?) d.at_) = fn.map He.DefD.val := congrArg (fun z : AlO => z.1.2) e
  have e3 : fnG (KA h.get?) (gt (KA h.get?) "Table" "columns") = valO.2.1 := congrArg (fun z : AlO => z.2.1) e
  have e4 : fnG (KA h.get?) (gt (KA h.get?) "Table" "rows") = valO.2.2 := congrArg (fun z : AlO => z.2.2) e
  obtain ⟨a1, a2⟩ := He.ba e1
  obtain ⟨a2, a3⟩ := He.ba a2
  obtain ⟨a3, a4⟩ := He.ba a3
  obtain ⟨b1, b2⟩ := He.ba (List.all_eq_true.mp a4 ("_law_case_right", none) List.mem_cons_self)
  have b3 : ∃ o, h.get? (He.cT (KA h.get?) ("_law_case_right", none)).2 = some o ∧ He.emptyTab o = true := by
    cases q : h.get? (He.cT (KA h.get?) ("_law_case_right", none)).2 with
    | none =>
      rw [q] at b2
      cases b2
    | some o =>
      rw [q] at b2
      exact ⟨o, rfl, b2⟩
  obtain ⟨o, q, z⟩ := b3
  exact ⟨List.all_eq_true.mp a1, fun d hd => ⟨List.map_inj_left.mp e2 d hd, List.all_eq_true.mp a2 d hd⟩, a3, e3, e4, b1, He.frT_none q z, by rw [q, He.emptyTab_eq z]⟩
def hkO : PySem.W.Hook where
  α := AlO
  obs := fun s => obG s.heap.get?
  val := fun _ => valO
  says := fun _ h => ∃ K : PySem.W.Frag, K.In h ∧ SaysO h K
  of := fun _ _ e => ⟨_, He.frT_in, says_of e⟩
  keeps := fun _ _ _ ⟨K, hK, c⟩ k => ⟨K, PySem.W.Frag.In.keeps hK k, ⟨c.fac, c.defs, c.ex, c.gC, c.gR, c.hd, c.out, k _ _ c.empty⟩⟩
def ob (s : PySem.W.SharedT) : AlO := obG (HandSHeadRun.getT s)
theorem ob_eq (s : PySem.W.SharedT) : ob s = hkO.obs s.abs := by
  have e : HandSHeadRun.getT s = s.abs.heap.get? := funext (HandSHeadRun.getT_eq s)
  show obG (HandSHeadRun.getT s) = obG s.abs.heap.get?
  rw [e]
def names0 : List Str := ["_wall", "__name__", "WrongValue", "WrongName", "NotPossible", "InvalidText", "InvalidColumn", "InvalidMix", "InvalidTarget", "InvalidPrices", "NotATable", "InvalidColumns", "InvalidRows", "UnknownName", "TooFew", "NotServed", "LETTERS", "DIGITS", "LONGEST_NAME", "LONGEST_NUMBER", "ZERO", "ONE", "is_whole", "is_integer", "is_name", "is_tuple_of", "written", "common", "lowest", "plus"]
def names1 : List Str := ["minus", "times", "is_above", "signed", "is_fraction", "is_stretch", "is_share_row", "total_of", "is_mix", "weighed", "signs_of", "over", "less", "Frame", "settled", "Outcome", "begun", "solved", "without_fills", "MOST_END", "MOST_COLUMNS", "MOST_ROWS", "MOST_PRICE", "is_end_stretch", "check_columns", "is_row", "check_rows", "row_told", "table_told", "Table"]
def names2 : List Str := ["stretch_at", "check_table", "check_name", "check_column", "check_mix", "check_target", "check_prices", "ends_at", "most_row", "least_row", "cheapest_of", "corner_rows", "both_rows", "no_prices", "sure_found", "possible_found", "all_corners", "dearest_of", "mix_in", "check_question", "check_priced", "price_of", "sure_mix", "possible_mix", "dearest_for", "worst_price", "best_price", "sure_price", "_law_mug", "_law_sip"]
def names3 : List Str := ["_law_of", "_law_low", "_law_plus", "_law_is_less", "_law_sum", "_law_span", "_law_stretch", "_law_body", "_law_heads", "_law_table", "_law_aim", "_law_ends", "_law_wants", "_law_sure_wants", "_law_some_wants", "_law_cuts", "_law_spots", "_law_cheapest", "_law_at_most", "_law_asked", "_law_case_right", "_law_right"]
def names : List Str := names0 ++ names1 ++ names2 ++ names3
abbrev RR : PySem.W.OpenRow := PySem.W.OpenLaw.row PySem.Challenge.rw_cornersure_k32_whole_best_and_sure_price
/-- the state behind the top -/
noncomputable abbrev endO (w : World) (os : OsState) : Option PySem.W.SharedT := HandSHeadRun.endF (HandSHeadRun.stepQ (HandSHeadRun.denQ HandSHeadRun.tabQ) RR.prog w) 10000 RR.prog w os
theorem runA (w : World) (os : OsState) : (endO w os).map (fun s => (HandSHeadRun.looksF RR.prog (PySem.W.boot_heap w.params) s.abs, HandSHeadRun.seenQ (PySem.W.view RR.prog [118]) names (importedModules RR.prog.main.body) (fun s => PySem.W.xlAt (PySem.W.view RR.prog [118]) [] s && PySem.W.recOk RR.toRowW.records s) s.abs)) = some (true, PySem.W.openGood (PySem.W.view RR.prog [118]) names) := by
  kernel_rfl
theorem runB (w : World) (os : OsState) : (endO w os).map (fun s => ob s) = some valO := by
  kernel_rfl
theorem run_join {σ α β γ : Type} {e : Option σ} {A : σ → α} {B : σ → β} {C : σ → γ} {a : α} {b : β} {c : γ} (h1 : e.map (fun s => (A s, B s)) = some (a, b)) (h2 : e.map (fun s => C s) = some c) : e.map (fun s => (A s, B s, C s)) = some (a, b, c) := by
  cases e with
  | none => cases h2
  | some s =>
    have h3 : (A s, B s) = (a, b) := Option.some.inj h1
    have h4 : C s = c := Option.some.inj h2
    injection h3 with h5 h6
    show some (A s, B s, C s) = some (a, b, c)
    rw [h5, h6, h4]
theorem run (w : World) : HandSHeadRun.RunEq RR (PySem.W.view RR.prog [118]) hkO ob 10000 names w := fun os => run_join (runA w os) (runB w os)
end Cs
set_option linter.all false
/-! sums and determinants over the rationals -/
namespace Cm
/-! ### sums -/
def sumTo : Nat → (Nat → Rat) → Rat
  | 0, _ => 0
  | n + 1, f => sumTo n f + f n
theorem sum_congr : ∀ {n : Nat} {f g : Nat → Rat}, (∀ i, i < n → f i = g i) → sumTo n f = sumTo n g
  | 0, _, _, _ => rfl
  | n + 1, f, g, h => by
    show sumTo n f + f n = sumTo n g + g n
    rw [sum_congr (n := n) fun i hi => h i (by omega), h n (by omega)]
theorem sum_add : ∀ (n : Nat) (f g : Nat → Rat), sumTo n (fun i => f i + g i) = sumTo n f + sumTo n g
  | 0, _, _ => by
    simp only [sumTo]
    grind
  | n + 1, f, g => by
    simp only [sumTo]
    rw [sum_add n f g]
    grind
theorem sum_mul : ∀ (n : Nat) (c : Rat) (f : Nat → Rat), sumTo n (fun i => c * f i) = c * sumTo n f
  | 0, c, _ => by simp [sumTo]
  | n + 1, c, f => by
    simp only [sumTo]
    rw [sum_mul n c f]
    grind
theorem sum_mulr (n : Nat) (c : Rat) (f : Nat → Rat) : sumTo n (fun i => f i * c) = sumTo n f * c := by
  rw [Rat.mul_comm, ← sum_mul]
  exact sum_congr fun i _ => Rat.mul_comm _ _
theorem sum_zero {n : Nat} {f : Nat → Rat} (h : ∀ i, i < n → f i = 0) : sumTo n f = 0 := by
  induction n with
  | zero => rfl
  | succ n ih =>
    simp only [sumTo]
    rw [ih fun i hi => h i (by omega), h n (by omega)]
    grind
theorem sum_single {n k : Nat} {f : Nat → Rat} (hk : k < n) (h : ∀ i, i < n → i ≠ k → f i = 0) : sumTo n f = f k := by
  induction n with
  | zero => omega
  | succ n ih =>
    simp only [sumTo]
    by_cases e : k = n
    · subst e
      rw [sum_zero fun i hi => h i (by omega) (by omega)]
      grind
    · rw [ih (by omega) fun i hi hne => h i (by omega) hne, h n (by omega) (by omega)]
      grind
theorem sum_swap : ∀ (n m : Nat) (f : Nat → Nat → Rat), sumTo n (fun i => sumTo m (f i)) = sumTo m (fun j => sumTo n (fun i => f i j))
  | 0, m, f => by
    simp only [sumTo]
    exact (sum_zero fun _ _ => rfl).symm
  | n + 1, m, f => by
    simp only [sumTo]
    rw [sum_swap n m f, ← sum_add]
theorem sum_sub (n : Nat) (f g : Nat → Rat) : sumTo n (fun i => f i - g i) = sumTo n f - sumTo n g := by
  have h := sum_add n f (fun i => (-1) * g i)
  rw [sum_mul] at h
  have e : sumTo n (fun i => f i - g i) = sumTo n (fun i => f i + -1 * g i) := sum_congr fun i _ => by grind
  rw [e, h]
  grind
theorem sum_nonneg {n : Nat} {f : Nat → Rat} (h : ∀ i, i < n → 0 ≤ f i) : 0 ≤ sumTo n f := by
  induction n with
  | zero => exact Rat.le_refl
  | succ n ih =>
    simp only [sumTo]
    have h1 := ih fun i hi => h i (by omega)
    have h2 := h n (by omega)
    grind
theorem sum_le {n : Nat} {f g : Nat → Rat} (h : ∀ i, i < n → f i ≤ g i) : sumTo n f ≤ sumTo n g := by
  induction n with
  | zero => exact Rat.le_refl
  | succ n ih =>
    simp only [sumTo]
    have h1 := ih fun i hi => h i (by omega)
    have h2 := h n (by omega)
    grind
/-- two terms alone -/
theorem sum_two {n k l : Nat} {f : Nat → Rat} (hk : k < l) (hl : l < n) (h : ∀ i, i < n → i ≠ k → i ≠ l → f i = 0) : sumTo n f = f k + f l := by
  have e1 : sumTo n f = sumTo n (fun i => (if i = k then f k else 0) + (if i = l then f l else 0)) := sum_congr fun i hi => by
    by_cases h1 : i = k
    · subst h1
      rw [if_pos rfl, if_neg (by omega)]
      grind
    · by_cases h2 : i = l
      · subst h2
        rw [if_neg h1, if_pos rfl]
        grind
      · rw [if_neg h1, if_neg h2, h i hi h1 h2]
        grind
  rw [e1, sum_add, sum_single (k := k) (by omega) fun i _ hne => if_neg hne, sum_single (k := l) hl fun i _ hne => if_neg hne, if_pos rfl, if_pos rfl]
/-! ### determinants -/
def sgn (c : Nat) : Rat := if c % 2 = 0 then 1 else -1
theorem sgn_succ (c : Nat) : sgn (c + 1) = - sgn c := by
  unfold sgn
  by_cases h : c % 2 = 0
  · rw [if_neg (by omega), if_pos h]
  · rw [if_pos (by omega), if_neg h]
    rfl
theorem sgn_sq (c : Nat) : sgn c * sgn c = 1 := by
  unfold sgn
  split <;> grind
def skip (c j : Nat) : Nat := if j < c then j else j + 1
def det : Nat → (Nat → Nat → Rat) → Rat
  | 0, _ => 1
  | m + 1, A => sumTo (m + 1) fun c => sgn c * A 0 c * det m fun i j => A (i + 1) (skip c j)
theorem det_congr : ∀ {m : Nat} {A B : Nat → Nat → Rat}, (∀ i j, i < m → j < m → A i j = B i j) → det m A = det m B
  | 0, _, _, _ => rfl
  | m + 1, A, B, h => by
    simp only [det]
    refine sum_congr fun c hc => ?_
    rw [h 0 c (by omega) hc, det_congr (m := m) fun i j hi hj => h (i + 1) (skip c j) (by omega) (by unfold skip; split <;> omega)]
/-- a column replaced -/
def setc (A : Nat → Nat → Rat) (k : Nat) (u : Nat → Rat) : Nat → Nat → Rat := fun i j => if j = k then u i else A i j
/-- where column k stands when column c is left out -/
def low (c k : Nat) : Nat := if k < c then k else k - 1
theorem minor_setc {A : Nat → Nat → Rat} {k c : Nat} {u : Nat → Rat} (h : c ≠ k) : (fun i j => setc A k u (i + 1) (skip c j)) = setc (fun i j => A (i + 1) (skip c j)) (low c k) fun i => u (i + 1) := by
  funext i j
  unfold setc skip low
  by_cases h1 : k < c
  · by_cases h2 : j < c
    · simp only [if_pos h1, if_pos h2]
    · simp only [if_pos h1, if_neg h2]
      rw [if_neg (by omega), if_neg (by omega)]
  · by_cases h2 : j < c
    · simp only [if_neg h1, if_pos h2]
      rw [if_neg (by omega), if_neg (by omega)]
    · simp only [if_neg h1, if_neg h2]
      by_cases h3 : j + 1 = k
      · rw [if_pos h3, if_pos (by omega)]
      · rw [if_neg h3, if_neg (by omega)]
theorem minor_same {A : Nat → Nat → Rat} {k : Nat} {u : Nat → Rat} : (fun i j => setc A k u (i + 1) (skip k j)) = fun i j => A (i + 1) (skip k j) := by
  funext i j
  unfold setc
  rw [if_neg (by unfold skip; split <;> omega)]
theorem det_lin : ∀ {m : Nat} (A : Nat → Nat → Rat) {k : Nat} (a b : Rat) (u v : Nat → Rat), k < m → det m (setc A k fun i => a * u i + b * v i) = a * det m (setc A k u) + b * det m (setc A k v)
  | 0, _, _, _, _, _, _, h => by omega
  | m + 1, A, k, a, b, u, v, h => by
    simp only [det]
    rw [← sum_mul, ← sum_mul, ← sum_add]
    refine sum_congr fun c hc => ?_
    by_cases e : c = k
    · subst e
      rw [minor_same, minor_same, minor_same]
      simp only [setc, if_pos]
      grind
    · rw [minor_setc e, minor_setc e, minor_setc e, det_lin (m := m) _ a b _ _ (by unfold low; split <;> omega)]
      simp only [setc, if_neg e]
      grind
/-- equal neighbours -/
theorem det_adj : ∀ {m : Nat} {A : Nat → Nat → Rat} {k : Nat}, k + 1 < m → (∀ i, i < m → A i k = A i (k + 1)) → det m A = 0
  | 0, _, _, h, _ => by omega
  | m + 1, A, k, h, he => by
    simp only [det]
    have e : (fun i j => A (i + 1) (skip k j)) = fun i j => A (i + 1) (skip k j) := rfl
    rw [sum_two (k := k) (l := k + 1) (by omega) h]
    · have e2 : det m (fun i j => A (i + 1) (skip k j)) = det m (fun i j => A (i + 1) (skip (k + 1) j)) := det_congr fun i j hi hj => by
        unfold skip
        by_cases h1 : j < k
        · rw [if_pos h1, if_pos (by omega)]
        · by_cases h2 : j = k
          · subst h2
            rw [if_neg h1, if_pos (by omega)]
            exact (he (i + 1) (by omega)).symm
          · rw [if_neg h1, if_neg (by omega)]
      rw [← e2, sgn_succ, ← he 0 (by omega)]
      grind
    · intro c hc h1 h2
      by_cases h3 : c < k
      · rw [det_adj (m := m) (k := k - 1) (by omega) fun i hi => ?_]
        · grind
        · unfold skip
          rw [if_neg (by omega), if_neg (by omega), show k - 1 + 1 = k by omega]
          exact he (i + 1) (by omega)
      · rw [det_adj (m := m) (k := k) (by omega) fun i hi => ?_]
        · grind
        · unfold skip
          rw [if_pos (by omega), if_pos (by omega)]
          exact he (i + 1) (by omega)
theorem setc_self {A : Nat → Nat → Rat} {k : Nat} : setc A k (fun i => A i k) = A := by
  funext i j
  unfold setc
  split
  · rename_i h
    rw [h]
  · rfl
theorem setc_setc {A : Nat → Nat → Rat} {k : Nat} {u v : Nat → Rat} : setc (setc A k u) k v = setc A k v := by
  funext i j
  unfold setc
  split <;> rfl
theorem setc_comm {A : Nat → Nat → Rat} {k l : Nat} {u v : Nat → Rat} (h : k ≠ l) : setc (setc A k u) l v = setc (setc A l v) k u := by
  funext i j
  unfold setc
  by_cases h1 : j = l
  · subst h1
    rw [if_pos rfl, if_neg (Ne.symm h), if_pos rfl]
  · rw [if_neg h1]
    by_cases h2 : j = k
    · rw [if_pos h2, if_pos h2]
    · rw [if_neg h2, if_neg h2, if_neg h1]
/-- neighbours exchanged -/
theorem det_swap {m : Nat} {A : Nat → Nat → Rat} {k : Nat} (h : k + 1 < m) (u v : Nat → Rat) : det m (setc (setc A k u) (k + 1) v) = - det m (setc (setc A k v) (k + 1) u) := by
  have nk : k ≠ k + 1 := by omega
  have dup : ∀ w : Nat → Rat, det m (setc (setc A k w) (k + 1) w) = 0 := fun w => det_adj h fun i _ => by
    unfold setc
    rw [if_neg nk, if_pos rfl, if_pos rfl]
  have h1 := dup fun i => 1 * u i + 1 * v i
  rw [det_lin _ 1 1 u v h, setc_comm nk, setc_comm nk, det_lin _ 1 1 u v (by omega), det_lin _ 1 1 u v (by omega), ← setc_comm nk, ← setc_comm nk, ← setc_comm nk, ← setc_comm nk, dup u, dup v] at h1
  grind
/-- equal columns -/
theorem det_alt {m : Nat} : ∀ (d : Nat) {A : Nat → Nat → Rat} {k : Nat}, k + 1 + d < m → (∀ i, i < m → A i k = A i (k + 1 + d)) → det m A = 0
  | 0, A, k, h, he => det_adj h he
  | d + 1, A, k, h, he => by
    -- exchange k + 1 + d and k + 2 + d
    have e1 : A = setc (setc A (k + 1 + d) (fun i => A i (k + 1 + d))) (k + 1 + d + 1) (fun i => A i (k + 1 + d + 1)) := by rw [setc_self, setc_self]
    rw [e1, det_swap (by omega), det_alt d (k := k) (by omega) fun i hi => ?_]
    · rfl
    · unfold setc
      rw [if_neg (by omega), if_neg (by omega), if_neg (by omega), if_pos rfl]
      exact he i hi
theorem det_eq {m : Nat} {A : Nat → Nat → Rat} {k l : Nat} (hk : k < m) (hl : l < m) (hne : k ≠ l) (he : ∀ i, i < m → A i k = A i l) : det m A = 0 := by
  by_cases h : k < l
  · exact det_alt (l - k - 1) (k := k) (by omega) fun i hi => by rw [show k + 1 + (l - k - 1) = l by omega]; exact he i hi
  · exact det_alt (k - l - 1) (k := l) (by omega) fun i hi => by rw [show l + 1 + (k - l - 1) = k by omega]; exact (he i hi).symm
/-- a column that is a sum of columns -/
theorem det_sum {m : Nat} (A : Nat → Nat → Rat) {p : Nat} (hp : p < m) : ∀ (n : Nat) (t : Nat → Rat) (c : Nat → Nat → Rat), det m (setc A p fun i => sumTo n fun q => t q * c q i) = sumTo n fun q => t q * det m (setc A p (c q))
  | 0, t, c => by
    have h := det_lin A 0 0 (fun _ => 0) (fun _ => 0) hp
    have e : (fun i => sumTo 0 fun q => t q * c q i) = (fun i : Nat => (0 : Rat) * (fun _ => 0) i + 0 * (fun _ => 0) i) := by
      funext i
      simp only [sumTo]
      grind
    rw [e, h]
    simp only [sumTo]
    grind
  | n + 1, t, c => by
    have h := det_lin A 1 (t n) (fun i => sumTo n fun q => t q * c q i) (c n) hp
    have e : (fun i => sumTo (n + 1) fun q => t q * c q i) = (fun i : Nat => (1 : Rat) * (fun i => sumTo n fun q => t q * c q i) i + t n * c n i) := by
      funext i
      simp only [sumTo]
      grind
    rw [e, h, det_sum A hp n t c]
    simp only [sumTo]
    grind
/-- Cramer: the column that is a sum of the columns tells its p-th share -/
theorem det_cramer {m : Nat} (A : Nat → Nat → Rat) {p : Nat} (hp : p < m) (t : Nat → Rat) : det m (setc A p fun i => sumTo m fun q => t q * A i q) = t p * det m A := by
  rw [det_sum A hp m t (fun q i => A i q), sum_single hp fun q hq hne => ?_]
  · rw [setc_self]
  · rw [det_eq hp hq (Ne.symm hne) fun i _ => ?_]
    · grind
    · unfold setc
      rw [if_pos rfl, if_neg hne]
/-! ### whole numbers and sizes -/
def IsInt (q : Rat) : Prop := ∃ z : Int, q = z
theorem IsInt.add {a b : Rat} (ha : IsInt a) (hb : IsInt b) : IsInt (a + b) := by
  obtain ⟨x, rfl⟩ := ha
  obtain ⟨y, rfl⟩ := hb
  exact ⟨x + y, by simp⟩
theorem IsInt.mul {a b : Rat} (ha : IsInt a) (hb : IsInt b) : IsInt (a * b) := by
  obtain ⟨x, rfl⟩ := ha
  obtain ⟨y, rfl⟩ := hb
  exact ⟨x * y, by simp⟩
theorem IsInt.sum {n : Nat} {f : Nat → Rat} (h : ∀ i, i < n → IsInt (f i)) : IsInt (sumTo n f) := by
  induction n with
  | zero => exact ⟨0, rfl⟩
  | succ n ih => exact (ih fun i hi => h i (by omega)).add (h n (by omega))
theorem sgn_int (c : Nat) : IsInt (sgn c) := by
  unfold sgn
  split
  · exact ⟨1, rfl⟩
  · exact ⟨-1, rfl⟩
theorem det_int : ∀ {m : Nat} {A : Nat → Nat → Rat}, (∀ i j, IsInt (A i j)) → IsInt (det m A)
  | 0, _, _ => ⟨1, rfl⟩
  | m + 1, A, h => IsInt.sum fun c _ => ((sgn_int c).mul (h 0 c)).mul (det_int fun i j => h (i + 1) (skip c j))
/-- |q| ≤ c -/
def Ab (c q : Rat) : Prop := -c ≤ q ∧ q ≤ c
theorem Ab.add {a b x y : Rat} (h : Ab a x) (g : Ab b y) : Ab (a + b) (x + y) := by
  obtain ⟨h1, h2⟩ := h
  obtain ⟨g1, g2⟩ := g
  constructor <;> grind
theorem Ab.mul {a b x y : Rat} (ha : 0 ≤ a) (h : Ab a x) (g : Ab b y) : Ab (a * b) (x * y) := by
  obtain ⟨h1, h2⟩ := h
  obtain ⟨g1, g2⟩ := g
  have q1 : 0 ≤ (a - x) * (b - y) := Rat.mul_nonneg (by grind) (by grind)
  have q2 : 0 ≤ (a + x) * (b + y) := Rat.mul_nonneg (by grind) (by grind)
  have q3 : 0 ≤ (a - x) * (b + y) := Rat.mul_nonneg (by grind) (by grind)
  have q4 : 0 ≤ (a + x) * (b - y) := Rat.mul_nonneg (by grind) (by grind)
  constructor <;> grind
theorem Ab.sum {n : Nat} {f : Nat → Rat} {c : Rat} (h : ∀ i, i < n → Ab c (f i)) : Ab (n * c) (sumTo n f) := by
  induction n with
  | zero => constructor <;> simp [sumTo]
  | succ n ih =>
    have h1 := (ih fun i hi => h i (by omega)).add (h n (by omega))
    have e : ((n + 1 : Nat) : Rat) * c = n * c + c := by
      have : ((n + 1 : Nat) : Rat) = (n : Rat) + 1 := by simp
      rw [this]
      grind
    rw [e]
    exact h1
/-- m! c^m -/
def detB (c : Rat) : Nat → Rat
  | 0 => 1
  | m + 1 => ((m + 1 : Nat) : Rat) * (c * detB c m)
theorem detB_nonneg {c : Rat} (hc : 0 ≤ c) : ∀ m, 0 ≤ detB c m
  | 0 => by
    unfold detB
    decide
  | m + 1 => Rat.mul_nonneg (by
      have : (0 : Rat) ≤ ((m + 1 : Nat) : Rat) := by exact_mod_cast Nat.zero_le (m + 1)
      exact this) (Rat.mul_nonneg hc (detB_nonneg hc m))
theorem det_ab {c : Rat} (hc : 0 ≤ c) : ∀ {m : Nat} {A : Nat → Nat → Rat}, (∀ i j, Ab c (A i j)) → Ab (detB c m) (det m A)
  | 0, _, _ => by constructor <;> (simp only [detB, det]; decide)
  | m + 1, A, h => by
    have step : ∀ k, k < m + 1 → Ab (c * detB c m) (sgn k * A 0 k * det m fun i j => A (i + 1) (skip k j)) := fun k _ => by
      refine Ab.mul hc ?_ (det_ab hc fun i j => h (i + 1) (skip k j))
      obtain ⟨h1, h2⟩ := h 0 k
      unfold sgn
      split
      · constructor <;> grind
      · constructor <;> grind
    exact Ab.sum step
end Cm
set_option linter.all false
/-! the tableau of the simplex method, by functions -/
namespace Cm
theorem div_mul {a b : Rat} (h : b ≠ 0) : a / b * b = a := by
  rw [Rat.div_def, Rat.mul_assoc, Rat.inv_mul_cancel b h, Rat.mul_one]
/-- T is the first rows M told by the columns b; f are the columns of units in M -/
structure Tab (m n : Nat) (M : Nat → Nat → Rat) (f : Nat → Nat) (T : Nat → Nat → Rat) (b : Nat → Nat) : Prop where
  bn : ∀ p, p < m → b p < n
  unit : ∀ p q, p < m → q < m → T p (b q) = if p = q then 1 else 0
  back : ∀ i j, i < m → j < n → M i j = sumTo m fun p => T p j * M i (b p)
  fwd : ∀ p j, p < m → j < n → T p j = sumTo m fun i => T p (f i) * M i j
  nd : det m (fun i q => M i (b q)) ≠ 0
/-- turned at row k and column c -/
def pivT (T : Nat → Nat → Rat) (k c : Nat) : Nat → Nat → Rat := fun p j => if p = k then T k j / T k c else T p j - T k j / T k c * T p c
def pivB (b : Nat → Nat) (k c : Nat) : Nat → Nat := fun p => if p = k then c else b p
section
variable {m n : Nat} {M : Nat → Nat → Rat} {f : Nat → Nat} {T : Nat → Nat → Rat} {b : Nat → Nat}
theorem Tab.inj (h : Tab m n M f T b) {p q : Nat} (hp : p < m) (hq : q < m) (e : b p = b q) : p = q := by
  have h1 := h.unit p q hp hq
  have h2 := h.unit p p hp hp
  rw [if_pos rfl] at h2
  rw [← e, h2] at h1
  by_cases hpq : p = q
  · exact hpq
  · rw [if_neg hpq] at h1
    exact absurd h1 (by decide)
theorem Tab.pivot (h : Tab m n M f T b) {k c : Nat} (hk : k < m) (hc : c < n) (hf : ∀ i, i < m → f i < n) (ne : T k c ≠ 0) : Tab m n M f (pivT T k c) (pivB b k c) where
  bn := fun p hp => by
    unfold pivB
    split
    · exact hc
    · exact h.bn p hp
  unit := fun p q hp hq => by
    unfold pivB pivT
    by_cases hqk : q = k
    · subst hqk
      simp only [if_pos]
      by_cases hpk : p = q
      · subst hpk
        simp only [if_pos]
        have := div_mul (a := T p c) ne
        grind
      · simp only [if_neg hpk]
        have := div_mul (a := T q c) ne
        grind
    · simp only [if_neg hqk]
      have e0 : T k (b q) = 0 := by rw [h.unit k q hk hq, if_neg (Ne.symm hqk)]
      have e1 := div_mul (a := T k (b q)) ne
      by_cases hpk : p = k
      · subst hpk
        simp only [if_pos]
        rw [if_neg (Ne.symm hqk)]
        grind
      · simp only [if_neg hpk]
        rw [h.unit p q hp hq]
        grind
  back := fun i j hi hj => by
    have hw := div_mul (a := T k j) ne
    generalize hgw : T k j / T k c = w at hw
    have e : (sumTo m fun p => pivT T k c p j * M i (pivB b k c p)) = sumTo m fun p => (T p j * M i (b p) + (-w) * (T p c * M i (b p))) + (if p = k then w * M i c else 0) := sum_congr fun p hp => by
      unfold pivT pivB
      rw [hgw]
      by_cases hpk : p = k
      · subst hpk
        simp only [if_pos]
        grind
      · simp only [if_neg hpk]
        grind
    rw [e, sum_add, sum_add, sum_mul, ← h.back i j hi hj, ← h.back i c hi hc, sum_single hk fun q _ hne => if_neg hne, if_pos rfl]
    grind
  fwd := fun p j hp hj => by
    have hw := div_mul (a := T k j) ne
    unfold pivT
    by_cases hpk : p = k
    · subst hpk
      simp only [if_pos]
      have e : (sumTo m fun i => T p (f i) / T p c * M i j) = sumTo m fun i => (1 / T p c) * (T p (f i) * M i j) := sum_congr fun i _ => by
        rw [Rat.div_def, Rat.div_def]
        grind
      rw [e, sum_mul, ← h.fwd p j hp hj, Rat.div_def, Rat.div_def]
      grind
    · simp only [if_neg hpk]
      have e : (sumTo m fun i => (T p (f i) - T k (f i) / T k c * T p c) * M i j) = sumTo m fun i => T p (f i) * M i j + (-(T p c / T k c)) * (T k (f i) * M i j) := sum_congr fun i _ => by
        rw [Rat.div_def, Rat.div_def]
        grind
      rw [e, sum_add, sum_mul, ← h.fwd p j hp hj, ← h.fwd k j hk hj, Rat.div_def, Rat.div_def]
      grind
  nd := by
    have e : det m (fun i q => M i (pivB b k c q)) = det m (setc (fun i q => M i (b q)) k fun i => sumTo m fun q => T q c * M i (b q)) := det_congr fun i j hi hj => by
      unfold setc pivB
      by_cases hjk : j = k
      · simp only [if_pos hjk]
        exact h.back i c hi hc
      · simp only [if_neg hjk]
    rw [e, det_cramer (fun i q => M i (b q)) hk (fun q => T q c)]
    have := h.nd
    intro z
    rcases Rat.mul_eq_zero.mp z with z | z
    · exact ne z
    · exact this z
/-- the columns tell the rows -/
theorem Tab.unique {T' : Nat → Nat → Rat} {b' : Nat → Nat} (h : Tab m n M f T b) (h' : Tab m n M f T' b') (eb : ∀ p, p < m → b p = b' p) {p j : Nat} (hp : p < m) (hj : j < n) : T p j = T' p j := by
  rw [h.fwd p j hp hj]
  have e : (sumTo m fun i => T p (f i) * M i j) = sumTo m fun i => sumTo m fun q => (T p (f i) * M i (b q)) * T' q j := sum_congr fun i hi => by
    rw [h'.back i j hi hj, ← sum_mul]
    refine sum_congr fun q hq => ?_
    rw [← eb q hq]
    grind
  rw [e, sum_swap]
  have e2 : (sumTo m fun q => sumTo m fun i => (T p (f i) * M i (b q)) * T' q j) = sumTo m fun q => T p (b q) * T' q j := sum_congr fun q hq => by
    rw [sum_mulr, ← h.fwd p (b q) hp (h.bn q hq)]
  rw [e2, sum_single hp fun q hq hne => ?_]
  · rw [h.unit p p hp hp, if_pos rfl]
    grind
  · rw [h.unit p q hp hq, if_neg (Ne.symm hne)]
    grind
/-- each number is a quotient of determinants -/
theorem Tab.quot (h : Tab m n M f T b) {p j : Nat} (hp : p < m) (hj : j < n) : T p j * det m (fun i q => M i (b q)) = det m (setc (fun i q => M i (b q)) p fun i => M i j) := by
  rw [← det_cramer (fun i q => M i (b q)) hp (fun q => T q j)]
  refine det_congr fun i q hi hq => ?_
  unfold setc
  split
  · exact (h.back i j hi hj).symm
  · rfl
/-! ### prices -/
def price (m : Nat) (cost : Nat → Rat) (T : Nat → Nat → Rat) (b : Nat → Nat) (j : Nat) : Rat := cost j - sumTo m fun p => cost (b p) * T p j
theorem price_basic (h : Tab m n M f T b) (cost : Nat → Rat) {q : Nat} (hq : q < m) : price m cost T b (b q) = 0 := by
  unfold price
  rw [sum_single hq fun p hp hne => ?_]
  · rw [h.unit q q hq hq, if_pos rfl]
    grind
  · rw [h.unit p q hp hq, if_neg hne]
    grind
/-- the weights of the first rows -/
def dual (m : Nat) (f : Nat → Nat) (cost : Nat → Rat) (T : Nat → Nat → Rat) (b : Nat → Nat) (i : Nat) : Rat := sumTo m fun p => cost (b p) * T p (f i)
theorem price_dual (h : Tab m n M f T b) (cost : Nat → Rat) {j : Nat} (hj : j < n) : price m cost T b j = cost j - sumTo m fun i => dual m f cost T b i * M i j := by
  unfold price dual
  have e : (sumTo m fun p => cost (b p) * T p j) = sumTo m fun p => sumTo m fun i => cost (b p) * T p (f i) * M i j := sum_congr fun p hp => by
    rw [h.fwd p j hp hj, ← sum_mul]
    exact sum_congr fun i _ => by grind
  rw [e, sum_swap]
  have e2 : (sumTo m fun i => (sumTo m fun p => cost (b p) * T p (f i)) * M i j) = sumTo m fun i => sumTo m fun p => cost (b p) * T p (f i) * M i j := sum_congr fun i _ => by
    rw [← sum_mulr]
  rw [e2]
/-- the prices of one frame by those of another one -/
theorem price_by {T' : Nat → Nat → Rat} {b' : Nat → Nat} (h : Tab m n M f T b) (h' : Tab m n M f T' b') (cost : Nat → Rat) {j : Nat} (hj : j < n) :
    price m cost T' b' j = price m cost T b j + sumTo m fun p => price m cost T' b' (b p) * T p j := by
  have key : ∀ j, j < n → price m cost T' b' j - price m cost T b j = sumTo m fun i => (dual m f cost T b i - dual m f cost T' b' i) * M i j := fun j hj => by
    rw [price_dual h' cost hj, price_dual h cost hj]
    have e : (sumTo m fun i => (dual m f cost T b i - dual m f cost T' b' i) * M i j) = sumTo m fun i => dual m f cost T b i * M i j - dual m f cost T' b' i * M i j := sum_congr fun i _ => by grind
    rw [e, sum_sub]
    grind
  have e1 : (sumTo m fun p => price m cost T' b' (b p) * T p j) = sumTo m fun p => sumTo m fun i => (dual m f cost T b i - dual m f cost T' b' i) * (T p j * M i (b p)) := sum_congr fun p hp => by
    have k := key (b p) (h.bn p hp)
    rw [price_basic h cost hp] at k
    have k2 : price m cost T' b' (b p) = sumTo m fun i => (dual m f cost T b i - dual m f cost T' b' i) * M i (b p) := by grind
    rw [k2, ← sum_mulr]
    exact sum_congr fun i _ => by grind
  have e2 : (sumTo m fun i => (dual m f cost T b i - dual m f cost T' b' i) * M i j) = sumTo m fun i => sumTo m fun p => (dual m f cost T b i - dual m f cost T' b' i) * (T p j * M i (b p)) := sum_congr fun i hi => by
    rw [sum_mul, ← h.back i j hi hj]
  have k := key j hj
  rw [e1, sum_swap, ← e2, ← k]
  grind
/-- the prices behind a turn -/
theorem price_pivot (h : Tab m n M f T b) (cost : Nat → Rat) {k c : Nat} (hk : k < m) (hc : c < n) (hf : ∀ i, i < m → f i < n) (ne : T k c ≠ 0) {j : Nat} (hj : j < n) :
    price m cost (pivT T k c) (pivB b k c) j = price m cost T b j - price m cost T b c * (T k j / T k c) := by
  have h' := h.pivot hk hc hf ne
  have h1 := price_by h' h cost hj
  have e : (sumTo m fun p => price m cost T b (pivB b k c p) * pivT T k c p j) = price m cost T b c * (T k j / T k c) := by
    rw [sum_single hk fun p hp hne => ?_]
    · unfold pivB pivT
      simp only [if_pos]
    · unfold pivB
      rw [if_neg hne, price_basic h cost hp]
      grind
  rw [e] at h1
  grind
end
end Cm
set_option linter.all false
/-! Bland's rule comes to an end -/
namespace Cm
/-! ### a hole too few -/
theorem pigeon : ∀ (N : Nat) (g : Nat → Nat), (∀ i, i ≤ N → g i < N) → ∃ i j, i < j ∧ j ≤ N ∧ g i = g j
  | 0, g, h => absurd (h 0 (Nat.le_refl _)) (by omega)
  | N + 1, g, h => by
    by_cases hx : ∃ i, i ≤ N ∧ g i = g (N + 1)
    · obtain ⟨i, hi, e⟩ := hx
      exact ⟨i, N + 1, by omega, by omega, e⟩
    · have hx' : ∀ i, i ≤ N → g i ≠ g (N + 1) := fun i hi e => hx ⟨i, hi, e⟩
      obtain ⟨i, j, h1, h2, e⟩ := pigeon N (fun i => if g i < g (N + 1) then g i else g i - 1) fun i hi => by
        have a := h i (by omega)
        have b := h (N + 1) (by omega)
        have c := hx' i hi
        split <;> omega
      refine ⟨i, j, h1, by omega, ?_⟩
      have a := hx' i (by omega)
      have b := hx' j h2
      split at e <;> split at e <;> omega
/-- a row of figures as a number -/
def code (n : Nat) (b : Nat → Nat) : Nat → Nat
  | 0 => 0
  | m + 1 => code n b m * n + b m
theorem code_lt {n : Nat} {b : Nat → Nat} : ∀ {m : Nat}, (∀ p, p < m → b p < n) → code n b m < n ^ m
  | 0, _ => by simp [code]
  | m + 1, h => by
    have h1 := code_lt (m := m) fun p hp => h p (by omega)
    have h2 := h m (by omega)
    simp only [code]
    have h3 : (code n b m + 1) * n ≤ n ^ m * n := Nat.mul_le_mul_right n h1
    rw [Nat.pow_succ]
    rw [Nat.add_mul] at h3
    omega
theorem code_inj {n : Nat} {b b' : Nat → Nat} : ∀ {m : Nat}, (∀ p, p < m → b p < n) → (∀ p, p < m → b' p < n) → code n b m = code n b' m → ∀ p, p < m → b p = b' p
  | 0, _, _, _, p, hp => by omega
  | m + 1, h, h', e, p, hp => by
    simp only [code] at e
    have h1 := h m (by omega)
    have h2 := h' m (by omega)
    have hn : 0 < n := by omega
    have e1 : b m = b' m := by
      have := congrArg (· % n) e
      simp only [Nat.mul_add_mod_self_right, Nat.mod_eq_of_lt h1, Nat.mod_eq_of_lt h2] at this
      exact this
    have e2 : code n b m = code n b' m := by
      rw [e1] at e
      exact Nat.eq_of_mul_eq_mul_right hn (by omega)
    by_cases hpm : p = m
    · rw [hpm]
      exact e1
    · exact code_inj (m := m) (fun p hp => h p (by omega)) (fun p hp => h' p (by omega)) e2 p (by omega)
/-! ### the rule -/
/-- c comes in: the first one below 0 of 1, .., w - 1 -/
structure Enters (w : Nat) (P : Nat → Rat) (c : Nat) : Prop where
  lo : 1 ≤ c
  hi : c < w
  neg : P c < 0
  first : ∀ j, 1 ≤ j → j < c → 0 ≤ P j
/-- row k gives way -/
structure Leaves (m : Nat) (T : Nat → Nat → Rat) (b : Nat → Nat) (c k : Nat) : Prop where
  lt : k < m
  pos : 0 < T k c
  best : ∀ p, p < m → 0 < T p c → T k 0 / T k c < T p 0 / T p c ∨ (T k 0 / T k c = T p 0 / T p c ∧ b k ≤ b p)
structure Setup (m n w : Nat) (f : Nat → Nat) : Prop where
  wn : w ≤ n
  fn : ∀ i, i < m → f i < n
  n0 : 0 < n
/-- an unending run -/
structure Run (m n w : Nat) (M : Nat → Nat → Rat) (f : Nat → Nat) (cost : Nat → Rat) (T : Nat → Nat → Nat → Rat) (b : Nat → Nat → Nat) (c k : Nat → Nat) : Prop where
  tab : ∀ i, Tab m n M f (T i) (b i)
  feas : ∀ i p, p < m → 0 ≤ T i p 0
  ent : ∀ i, Enters w (price m cost (T i) (b i)) (c i)
  lea : ∀ i, Leaves m (T i) (b i) (c i) (k i)
  step : ∀ i p j, p < m → j < n → T (i + 1) p j = pivT (T i) (k i) (c i) p j
  stepB : ∀ i p, p < m → b (i + 1) p = pivB (b i) (k i) (c i) p
/-- r is told by a row -/
def Mem (m : Nat) (b : Nat → Nat) (r : Nat) : Prop := ∃ p, p < m ∧ b p = r
section
variable {m n w : Nat} {M : Nat → Nat → Rat} {f : Nat → Nat} {cost : Nat → Rat} {T : Nat → Nat → Nat → Rat} {b : Nat → Nat → Nat} {c k : Nat → Nat}
theorem Run.memStep (R : Run m n w M f cost T b c k) (i r : Nat) : Mem m (b (i + 1)) r ↔ r = c i ∨ (Mem m (b i) r ∧ r ≠ b i (k i)) := by
  have hk := (R.lea i).lt
  constructor
  · rintro ⟨p, hp, e⟩
    rw [R.stepB i p hp] at e
    unfold pivB at e
    split at e
    · exact .inl e.symm
    · rename_i hne
      refine .inr ⟨⟨p, hp, e⟩, fun z => hne ?_⟩
      exact (R.tab i).inj hp hk (by rw [e, z])
  · rintro (rfl | ⟨⟨p, hp, e⟩, hne⟩)
    · refine ⟨k i, hk, ?_⟩
      rw [R.stepB i (k i) hk]
      unfold pivB
      rw [if_pos rfl]
    · refine ⟨p, hp, ?_⟩
      rw [R.stepB i p hp]
      unfold pivB
      rw [if_neg fun z => hne (by rw [← e, z])]
      exact e
/-- what goes out leaves somewhere -/
theorem Run.goesOut (R : Run m n w M f cost T b c k) {r : Nat} : ∀ (d u : Nat), Mem m (b u) r → ¬ Mem m (b (u + d)) r → ∃ x, u ≤ x ∧ x < u + d ∧ b x (k x) = r
  | 0, u, h1, h2 => absurd h1 h2
  | d + 1, u, h1, h2 => by
    by_cases h3 : Mem m (b (u + 1)) r
    · obtain ⟨x, a1, a2, a3⟩ := R.goesOut d (u + 1) h3 (by rw [show u + 1 + d = u + (d + 1) by omega]; exact h2)
      exact ⟨x, by omega, by omega, a3⟩
    · refine ⟨u, Nat.le_refl _, by omega, ?_⟩
      by_cases e : b u (k u) = r
      · exact e
      · exact absurd ((R.memStep u r).mpr (.inr ⟨h1, Ne.symm e⟩)) h3
theorem Run.comesIn (R : Run m n w M f cost T b c k) {r : Nat} : ∀ (d u : Nat), ¬ Mem m (b u) r → Mem m (b (u + d)) r → ∃ x, u ≤ x ∧ x < u + d ∧ c x = r
  | 0, u, h1, h2 => absurd h2 h1
  | d + 1, u, h1, h2 => by
    by_cases h3 : Mem m (b (u + 1)) r
    · rcases (R.memStep u r).mp h3 with e | ⟨h4, _⟩
      · exact ⟨u, Nat.le_refl _, by omega, e.symm⟩
      · exact absurd h4 h1
    · obtain ⟨x, a1, a2, a3⟩ := R.comesIn d (u + 1) h3 (by rw [show u + 1 + d = u + (d + 1) by omega]; exact h2)
      exact ⟨x, by omega, by omega, a3⟩
theorem div_nonneg {a b : Rat} (ha : 0 ≤ a) (hb : 0 < b) : 0 ≤ a / b := by
  rw [Rat.div_def]
  exact Rat.mul_nonneg ha (Rat.le_of_lt (Rat.inv_pos.mpr hb))
theorem Run.ne (R : Run m n w M f cost T b c k) (i : Nat) : T i (k i) (c i) ≠ 0 := fun z => by
  have := (R.lea i).pos
  rw [z] at this
  exact absurd this (by decide)
/-- the prices of the next frame -/
theorem Run.price (R : Run m n w M f cost T b c k) (S : Setup m n w f) (i : Nat) {j : Nat} (hj : j < n) :
    price m cost (T (i + 1)) (b (i + 1)) j = price m cost (T i) (b i) j - price m cost (T i) (b i) (c i) * (T i (k i) j / T i (k i) (c i)) := by
  have hk := (R.lea i).lt
  have hc : c i < n := Nat.lt_of_lt_of_le (R.ent i).hi S.wn
  rw [← price_pivot (R.tab i) cost hk hc S.fn (R.ne i) hj]
  unfold Cm.price
  rw [sum_congr fun p hp => by rw [R.stepB i p hp, R.step i p j hp hj]]
/-- the value rises -/
theorem Run.mono (R : Run m n w M f cost T b c k) (S : Setup m n w f) (i : Nat) : Cm.price m cost (T i) (b i) 0 ≤ Cm.price m cost (T (i + 1)) (b (i + 1)) 0 := by
  rw [R.price S i S.n0]
  have h1 := (R.ent i).neg
  have h2 := div_nonneg (R.feas i (k i) (R.lea i).lt) (R.lea i).pos
  have h3 := Rat.mul_nonneg (show 0 ≤ -(Cm.price m cost (T i) (b i) (c i)) by grind) h2
  grind
theorem Run.monoAll (R : Run m n w M f cost T b c k) (S : Setup m n w f) (i : Nat) : ∀ d, Cm.price m cost (T i) (b i) 0 ≤ Cm.price m cost (T (i + d)) (b (i + d)) 0
  | 0 => Rat.le_refl
  | d + 1 => Rat.le_trans (R.monoAll S i d) (R.mono S (i + d))
/-- no step of a ring moves -/
theorem Run.still (R : Run m n w M f cost T b c k) (S : Setup m n w f) {u v : Nat} (huv : u < v) (eb : ∀ p, p < m → b u p = b v p) {x : Nat} (h1 : u ≤ x) (h2 : x < v) : T x (k x) 0 = 0 := by
  have e : Cm.price m cost (T u) (b u) 0 = Cm.price m cost (T v) (b v) 0 := by
    unfold Cm.price
    rw [sum_congr fun p hp => by rw [eb p hp, (R.tab u).unique (R.tab v) eb hp S.n0]]
  have m1 := R.monoAll S u (x - u)
  have m2 := R.monoAll S (x + 1) (v - (x + 1))
  rw [show u + (x - u) = x by omega] at m1
  rw [show x + 1 + (v - (x + 1)) = v by omega] at m2
  have m3 := R.price S x S.n0
  have hneg := (R.ent x).neg
  have hd := div_nonneg (R.feas x (k x) (R.lea x).lt) (R.lea x).pos
  have z : T x (k x) 0 / T x (k x) (c x) = 0 := by
    have q : Cm.price m cost (T x) (b x) (c x) * (T x (k x) 0 / T x (k x) (c x)) = 0 := by
      have h3 := Rat.mul_nonneg (show 0 ≤ -(Cm.price m cost (T x) (b x) (c x)) by grind) hd
      grind
    rcases Rat.mul_eq_zero.mp q with q | q
    · rw [q] at hneg
      exact absurd hneg (by decide)
    · exact q
  have := div_mul (a := T x (k x) 0) (R.ne x)
  rw [z] at this
  grind
/-- r has the value 0 -/
def Null (m : Nat) (T : Nat → Nat → Rat) (b : Nat → Nat) (r : Nat) : Prop := ∀ p, p < m → b p = r → T p 0 = 0
theorem Run.null (R : Run m n w M f cost T b c k) (S : Setup m n w f) {u v : Nat} (huv : u < v) (eb : ∀ p, p < m → b u p = b v p) {x : Nat} (h1 : u ≤ x) (h2 : x < v) (r : Nat) : Null m (T x) (b x) r ↔ Null m (T (x + 1)) (b (x + 1)) r := by
  have z := R.still S huv eb h1 h2
  have same : ∀ p, p < m → T (x + 1) p 0 = T x p 0 := fun p hp => by
    rw [R.step x p 0 hp S.n0]
    unfold pivT
    split
    · rename_i e
      rw [e, z, Rat.div_def]
      grind
    · rw [z, Rat.div_def]
      grind
  constructor
  · intro h p hp e
    rw [same p hp]
    by_cases hpk : p = k x
    · rw [hpk]
      exact z
    · rw [R.stepB x p hp] at e
      unfold pivB at e
      rw [if_neg hpk] at e
      exact h p hp e
  · intro h p hp e
    by_cases hpk : p = k x
    · rw [hpk]
      exact z
    · rw [← same p hp]
      refine h p hp ?_
      rw [R.stepB x p hp]
      unfold pivB
      rw [if_neg hpk]
      exact e
theorem Run.nullAll (R : Run m n w M f cost T b c k) (S : Setup m n w f) {u v : Nat} (huv : u < v) (eb : ∀ p, p < m → b u p = b v p) (r : Nat) : ∀ (d x : Nat), u ≤ x → x + d ≤ v → (Null m (T x) (b x) r ↔ Null m (T (x + d)) (b (x + d)) r)
  | 0, _, _, _ => Iff.rfl
  | d + 1, x, h1, h2 => (R.null S huv eb h1 (by omega) r).trans (by
      have := R.nullAll S huv eb r d (x + 1) (by omega) (by omega)
      rw [show x + 1 + d = x + (d + 1) by omega] at this
      exact this)
theorem greatest (c : Nat → Nat) (u : Nat) : ∀ d, ∃ e, u ≤ e ∧ e < u + (d + 1) ∧ ∀ x, u ≤ x → x < u + (d + 1) → c x ≤ c e
  | 0 => ⟨u, Nat.le_refl _, by omega, fun x h1 h2 => by rw [show x = u by omega]; exact Nat.le_refl _⟩
  | d + 1 => by
    obtain ⟨e, h1, h2, h3⟩ := greatest c u d
    by_cases h : c e ≤ c (u + (d + 1))
    · refine ⟨u + (d + 1), by omega, by omega, fun x a1 a2 => ?_⟩
      by_cases hx : x < u + (d + 1)
      · exact Nat.le_trans (h3 x a1 hx) h
      · rw [show x = u + (d + 1) by omega]
        exact Nat.le_refl _
    · refine ⟨e, h1, by omega, fun x a1 a2 => ?_⟩
      by_cases hx : x < u + (d + 1)
      · exact h3 x a1 hx
      · rw [show x = u + (d + 1) by omega]
        omega
theorem sum_pos_term : ∀ {n : Nat} {g : Nat → Rat}, 0 < sumTo n g → ∃ i, i < n ∧ 0 < g i
  | 0, g, h => absurd h (by simp only [sumTo]; decide)
  | n + 1, g, h => by
    by_cases h1 : 0 < g n
    · exact ⟨n, by omega, h1⟩
    · have h2 : 0 < sumTo n g := by
        simp only [sumTo] at h
        grind
      obtain ⟨i, hi, hg⟩ := sum_pos_term h2
      exact ⟨i, by omega, hg⟩
theorem Run.ring (R : Run m n w M f cost T b c k) (S : Setup m n w f) {u v : Nat} (huv : u < v) (eb : ∀ p, p < m → b u p = b v p) : False := by
  have mem_eq : ∀ r, Mem m (b u) r ↔ Mem m (b v) r := fun r => ⟨fun ⟨p, hp, e⟩ => ⟨p, hp, by rw [← eb p hp]; exact e⟩, fun ⟨p, hp, e⟩ => ⟨p, hp, by rw [eb p hp]; exact e⟩⟩
  obtain ⟨e, he1, he2, hmax⟩ := greatest c u (v - u - 1)
  rw [show u + (v - u - 1 + 1) = v by omega] at he2 hmax
  -- a basic column has the price 0, so the one that comes in is not basic
  have notIn : ∀ x, ¬ Mem m (b x) (c x) := fun x ⟨p, hp, ep⟩ => by
    have h1 := (R.ent x).neg
    rw [← ep, price_basic (R.tab x) cost hp] at h1
    exact absurd h1 (by decide)
  have inNext : ∀ x, Mem m (b (x + 1)) (c x) := fun x => (R.memStep x _).mpr (.inl rfl)
  -- c e goes out at l
  obtain ⟨l, hl1, hl2, hl⟩ : ∃ l, u ≤ l ∧ l < v ∧ b l (k l) = c e := by
    by_cases hu : Mem m (b u) (c e)
    · obtain ⟨x, a1, a2, a3⟩ := R.goesOut (e - u) u hu (by rw [show u + (e - u) = e by omega]; exact notIn e)
      exact ⟨x, a1, by omega, a3⟩
    · have hv : ¬ Mem m (b v) (c e) := fun z => hu ((mem_eq _).mpr z)
      obtain ⟨x, a1, a2, a3⟩ := R.goesOut (v - (e + 1)) (e + 1) (inNext e) (by rw [show e + 1 + (v - (e + 1)) = v by omega]; exact hv)
      exact ⟨x, by omega, by omega, a3⟩
  have hk := (R.lea l).lt
  -- what comes in at l is less
  have hs1 : c l ≤ c e := hmax l hl1 hl2
  have hs2 : c l ≠ c e := fun z => notIn l ⟨k l, hk, by rw [hl, z]⟩
  have hcl : c l < n := Nat.lt_of_lt_of_le (R.ent l).hi S.wn
  have p1 : 0 ≤ Cm.price m cost (T e) (b e) (c l) := (R.ent e).first (c l) (R.ent l).lo (by omega)
  have p2 := price_by (R.tab l) (R.tab e) cost hcl
  have p3 := (R.ent l).neg
  obtain ⟨p, hp, hpos⟩ : ∃ p, p < m ∧ 0 < Cm.price m cost (T e) (b e) (b l p) * T l p (c l) := sum_pos_term (by grind)
  have hr0 : Cm.price m cost (T e) (b e) (b l p) ≠ 0 := fun z => by
    rw [z] at hpos
    grind
  have hre : ¬ Mem m (b e) (b l p) := fun ⟨q, hq, eq⟩ => hr0 (by rw [← eq]; exact price_basic (R.tab e) cost hq)
  have hrl : Mem m (b l) (b l p) := ⟨p, hp, rfl⟩
  -- it comes in somewhere
  obtain ⟨x, hx1, hx2, hx⟩ : ∃ x, u ≤ x ∧ x < v ∧ c x = b l p := by
    by_cases hle : e ≤ l
    · obtain ⟨x, a1, a2, a3⟩ := R.comesIn (l - e) e hre (by rw [show e + (l - e) = l by omega]; exact hrl)
      exact ⟨x, by omega, by omega, a3⟩
    · by_cases hu : Mem m (b u) (b l p)
      · obtain ⟨x, a1, a2, a3⟩ := R.comesIn (v - e) e hre (by rw [show e + (v - e) = v by omega]; exact (mem_eq _).mp hu)
        exact ⟨x, by omega, by omega, a3⟩
      · obtain ⟨x, a1, a2, a3⟩ := R.comesIn (l - u) u hu (by rw [show u + (l - u) = l by omega]; exact hrl)
        exact ⟨x, by omega, by omega, a3⟩
  have hrt : b l p ≤ c e := by
    rw [← hx]
    exact hmax x hx1 hx2
  have hr1 : 1 ≤ b l p := by
    rw [← hx]
    exact (R.ent x).lo
  have hrne : b l p ≠ c e := fun z => by
    have hpk : p = k l := (R.tab l).inj hp hk (by rw [z, hl])
    have h1 := (R.ent e).neg
    have h2 := (R.lea l).pos
    rw [z, hpk] at hpos
    have h3 := Rat.mul_nonneg (show 0 ≤ -(Cm.price m cost (T e) (b e) (c e)) by grind) (Rat.le_of_lt h2)
    grind
  have hrp : 0 ≤ Cm.price m cost (T e) (b e) (b l p) := (R.ent e).first _ hr1 (by omega)
  have hT : 0 < T l p (c l) := by
    by_cases h : 0 < T l p (c l)
    · exact h
    · have h3 := Rat.mul_nonneg hrp (show 0 ≤ -(T l p (c l)) by grind)
      grind
  -- its value is 0
  have nullE : Null m (T e) (b e) (b l p) := fun q hq eq => absurd ⟨q, hq, eq⟩ hre
  have nullL : Null m (T l) (b l) (b l p) := by
    by_cases hle : e ≤ l
    · have := (R.nullAll S huv eb (b l p) (l - e) e he1 (by omega)).mp
      rw [show e + (l - e) = l by omega] at this
      exact this nullE
    · have := (R.nullAll S huv eb (b l p) (e - l) l hl1 (by omega)).mpr
      rw [show l + (e - l) = e by omega] at this
      exact this nullE
  have z0 := nullL p hp rfl
  have zk := R.still S huv eb hl1 hl2
  have hb := (R.lea l).best p hp hT
  rw [z0, zk, hl] at hb
  rcases hb with hb | ⟨_, hb⟩
  · rw [Rat.div_def, Rat.div_def] at hb
    grind
  · omega
theorem Run.false (R : Run m n w M f cost T b c k) (S : Setup m n w f) : False := by
  obtain ⟨u, v, h1, h2, e⟩ := pigeon (n ^ m) (fun i => code n (b i) m) fun i _ => code_lt fun p hp => (R.tab i).bn p hp
  exact R.ring S h1 (code_inj (fun p hp => (R.tab u).bn p hp) (fun p hp => (R.tab v).bn p hp) e)
end
end Cm
set_option linter.all false
/-! corners of a polygon; a box that mixes of corners hit -/
namespace Cm
abbrev C3 := Int × Int × Int
/-- what a line's left side is -/
def lv (c : C3) (a b : Rat) : Rat := (c.1 : Rat) * a + (c.2.1 : Rat) * b
theorem lv_go (c : C3) (a b d e t : Rat) : lv c (a + t * d) (b + t * e) = lv c a b + t * lv c d e := by
  unfold lv
  grind
def In (cs : List C3) (a b : Rat) : Prop := ∀ c ∈ cs, lv c a b ≤ (c.2.2 : Rat)
theorem div_mul' {a b : Rat} (h : b ≠ 0) : a / b * b = a := by
  rw [Rat.div_def, Rat.mul_assoc, Rat.inv_mul_cancel _ h, Rat.mul_one]
theorem div_nn {a b : Rat} (ha : 0 ≤ a) (hb : 0 < b) : 0 ≤ a / b := by
  rw [Rat.div_def]
  exact Rat.mul_nonneg ha (Rat.le_of_lt (Rat.inv_pos.mpr hb))
/-- no line ahead, or the first one that is met -/
theorem move_or (a b d e : Rat) : ∀ cs : List C3, In cs a b →
    (∀ c ∈ cs, lv c d e ≤ 0) ∨ ∃ t, 0 ≤ t ∧ In cs (a + t * d) (b + t * e) ∧ ∃ c ∈ cs, 0 < lv c d e ∧ lv c (a + t * d) (b + t * e) = (c.2.2 : Rat)
  | [], _ => .inl fun c hc => by cases hc
  | c :: cs, h => by
    have hc := h c (List.mem_cons_self)
    have ih := move_or a b d e cs fun x hx => h x (List.mem_cons_of_mem _ hx)
    have mono : ∀ x ∈ cs, ∀ t t1 : Rat, 0 ≤ t → t ≤ t1 → lv x (a + t1 * d) (b + t1 * e) ≤ (x.2.2 : Rat) → lv x (a + t * d) (b + t * e) ≤ (x.2.2 : Rat) := fun x hx t t1 h0 h1 h2 => by
      have h3 := h x (List.mem_cons_of_mem _ hx)
      rw [lv_go] at h2 ⊢
      by_cases hp : 0 ≤ lv x d e
      · have := Rat.mul_nonneg (show 0 ≤ t1 - t by grind) hp
        grind
      · have := Rat.mul_nonneg h0 (show 0 ≤ - lv x d e by grind)
        grind
    by_cases hp : 0 < lv c d e
    · have ne : lv c d e ≠ 0 := by grind
      have e1 := div_mul' (a := (c.2.2 : Rat) - lv c a b) ne
      have t0 := div_nn (a := (c.2.2 : Rat) - lv c a b) (by grind) hp
      generalize hu : ((c.2.2 : Rat) - lv c a b) / lv c d e = u at e1 t0
      have tight : lv c (a + u * d) (b + u * e) = (c.2.2 : Rat) := by
        rw [lv_go]
        grind
      rcases ih with hn | ⟨t1, h1, h2, c1, m1, p1, q1⟩
      · refine .inr ⟨u, t0, fun x hx => ?_, c, List.mem_cons_self, hp, tight⟩
        rcases List.mem_cons.mp hx with rfl | hx'
        · rw [tight]
          exact Rat.le_refl
        · have h3 := h x hx
          have h4 := hn x hx'
          rw [lv_go]
          have := Rat.mul_nonneg t0 (show 0 ≤ - lv x d e by grind)
          grind
      · by_cases hu1 : u ≤ t1
        · refine .inr ⟨u, t0, fun x hx => ?_, c, List.mem_cons_self, hp, tight⟩
          rcases List.mem_cons.mp hx with rfl | hx'
          · rw [tight]
            exact Rat.le_refl
          · exact mono x hx' u t1 t0 hu1 (h2 x hx')
        · refine .inr ⟨t1, h1, fun x hx => ?_, c1, List.mem_cons_of_mem _ m1, p1, q1⟩
          rcases List.mem_cons.mp hx with rfl | hx'
          · rw [lv_go] at tight ⊢
            have := Rat.mul_nonneg (show 0 ≤ u - t1 by grind) (Rat.le_of_lt hp)
            grind
          · exact h2 x hx'
    · rcases ih with hn | ⟨t1, h1, h2, c1, m1, p1, q1⟩
      · refine .inl fun x hx => ?_
        rcases List.mem_cons.mp hx with rfl | hx'
        · grind
        · exact hn x hx'
      · refine .inr ⟨t1, h1, fun x hx => ?_, c1, List.mem_cons_of_mem _ m1, p1, q1⟩
        rcases List.mem_cons.mp hx with rfl | hx'
        · rw [lv_go]
          have := Rat.mul_nonneg h1 (show 0 ≤ - lv x d e by grind)
          grind
        · exact h2 x hx'
/-- the lines of the triangle are among them -/
structure Tri (cs : List C3) : Prop where
  l : (-1, 0, 0) ∈ cs
  r : (0, -1, 0) ∈ cs
  s : (1, 1, 1) ∈ cs
theorem Tri.ahead {cs : List C3} (T : Tri cs) {d e : Rat} (h : d ≠ 0 ∨ e ≠ 0) : ¬ ∀ c ∈ cs, lv c d e ≤ 0 := fun hn => by
  have h1 := hn _ T.l
  have h2 := hn _ T.r
  have h3 := hn _ T.s
  simp only [lv] at h1 h2 h3
  grind
/-- for each point there is a corner that costs no more -/
theorem corner {cs : List C3} (T : Tri cs) {a b : Rat} (h : In cs a b) (p q : Rat) :
    ∃ x y, In cs x y ∧ p * x + q * y ≤ p * a + q * b ∧ ∃ c1 ∈ cs, ∃ c2 ∈ cs, lv c1 x y = (c1.2.2 : Rat) ∧ lv c2 x y = (c2.2.2 : Rat) ∧ c1.1 * c2.2.1 - c2.1 * c1.2.1 ≠ 0 := by
  -- a first direction
  obtain ⟨d, hd, hd'⟩ : ∃ d : Rat, d ≠ 0 ∧ p * d ≤ 0 := by
    by_cases hp : 0 ≤ p
    · exact ⟨-1, by grind, by grind⟩
    · exact ⟨1, by grind, by grind⟩
  rcases move_or a b d 0 cs h with hn | ⟨t, t0, h1, c1, m1, p1, e1⟩
  · exact (T.ahead (.inl hd) hn).elim
  have ob1 : p * (a + t * d) + q * (b + t * 0) ≤ p * a + q * b := by
    have := Rat.mul_nonneg t0 (show 0 ≤ -(p * d) by grind)
    grind
  generalize a + t * d = a1 at h1 e1 ob1
  generalize b + t * 0 = b1 at h1 e1 ob1
  have ne1 : (c1.1 : Rat) ≠ 0 := fun z => by
    simp only [lv] at p1
    rw [z] at p1
    grind
  -- along the line
  obtain ⟨s, hs, hs'⟩ : ∃ s : Rat, (s = 1 ∨ s = -1) ∧ p * (s * -(c1.2.1 : Rat)) + q * (s * (c1.1 : Rat)) ≤ 0 := by
    by_cases hp : 0 ≤ p * (-(c1.2.1 : Rat)) + q * (c1.1 : Rat)
    · exact ⟨-1, .inr rfl, by grind⟩
    · exact ⟨1, .inl rfl, by grind⟩
  rcases move_or a1 b1 (s * -(c1.2.1 : Rat)) (s * (c1.1 : Rat)) cs h1 with hn | ⟨t2, t20, h2, c2, m2, p2, e2⟩
  · refine (T.ahead (.inr ?_) hn).elim
    rcases hs with rfl | rfl <;> grind
  refine ⟨_, _, h2, ?_, c1, m1, c2, m2, ?_, e2, fun z => ?_⟩
  · have := Rat.mul_nonneg t20 (show 0 ≤ -(p * (s * -(c1.2.1 : Rat)) + q * (s * (c1.1 : Rat))) by grind)
    grind
  · rw [lv_go, e1]
    unfold lv
    grind
  · have z' : (c1.1 : Rat) * (c2.2.1 : Rat) - (c2.1 : Rat) * (c1.2.1 : Rat) = 0 := by
      have := congrArg (fun i : Int => (i : Rat)) z
      simpa using this
    simp only [lv] at p2
    rcases hs with rfl | rfl <;> grind
/-! ### the box -/
def mixF (t : Rat) (x y : Nat → Rat) : Nat → Rat := fun k => (1 - t) * x k + t * y k
/-- closed under mixes of two -/
def Conv (C : (Nat → Rat) → Prop) : Prop := ∀ t x y, 0 ≤ t → t ≤ 1 → C x → C y → C (mixF t x y)
/-- goes through mixes -/
def Lin (g : (Nat → Rat) → Rat) : Prop := ∀ t x y, g (mixF t x y) = (1 - t) * g x + t * g y
theorem lin_sum (n : Nat) (m : Nat → Rat) : Lin fun x => sumTo n fun i => m i * x i := fun t x y => by
  show (sumTo n fun i => m i * mixF t x y i) = _
  have e : (sumTo n fun i => m i * mixF t x y i) = sumTo n fun i => (1 - t) * (m i * x i) + t * (m i * y i) := sum_congr fun i _ => by
    unfold mixF
    grind
  rw [e, sum_add, sum_mul, sum_mul]
theorem Conv.le {C : (Nat → Rat) → Prop} (h : Conv C) {g : (Nat → Rat) → Rat} (hg : Lin g) (u : Rat) : Conv fun x => C x ∧ g x ≤ u := fun t x y h0 h1 hx hy => by
  refine ⟨h t x y h0 h1 hx.1 hy.1, ?_⟩
  rw [hg]
  have a := Rat.mul_nonneg (show 0 ≤ 1 - t by grind) (show 0 ≤ u - g x by grind)
  have b := Rat.mul_nonneg h0 (show 0 ≤ u - g y by grind)
  grind
theorem Conv.ge {C : (Nat → Rat) → Prop} (h : Conv C) {g : (Nat → Rat) → Rat} (hg : Lin g) (u : Rat) : Conv fun x => C x ∧ u ≤ g x := fun t x y h0 h1 hx hy => by
  refine ⟨h t x y h0 h1 hx.1 hy.1, ?_⟩
  rw [hg]
  have a := Rat.mul_nonneg (show 0 ≤ 1 - t by grind) (show 0 ≤ g x - u by grind)
  have b := Rat.mul_nonneg h0 (show 0 ≤ g y - u by grind)
  grind
/-- mixes of the answers for all signs hit the box -/
theorem box : ∀ (w : Nat) (C : (Nat → Rat) → Prop) (g : Nat → (Nat → Rat) → Rat) (lo hi : Nat → Rat), Conv C → (∀ k, k < w → Lin (g k)) → (∀ k, k < w → lo k ≤ hi k) →
    (∀ s : Nat → Bool, ∃ x, C x ∧ ∀ k, k < w → if s k then g k x ≤ hi k else lo k ≤ g k x) → ∃ x, C x ∧ ∀ k, k < w → lo k ≤ g k x ∧ g k x ≤ hi k
  | 0, C, g, lo, hi, _, _, _, h => by
    obtain ⟨x, hx, _⟩ := h fun _ => true
    exact ⟨x, hx, fun k hk => by omega⟩
  | w + 1, C, g, lo, hi, hC, hg, hl, h => by
    have half : ∀ (b : Bool), ∃ x, (C x ∧ if b then g w x ≤ hi w else lo w ≤ g w x) ∧ ∀ k, k < w → lo k ≤ g k x ∧ g k x ≤ hi k := fun b => by
      have cv : Conv fun x => C x ∧ if b then g w x ≤ hi w else lo w ≤ g w x := by
        cases b
        · simpa using hC.ge (hg w (by omega)) (lo w)
        · simpa using hC.le (hg w (by omega)) (hi w)
      refine box w _ g lo hi cv (fun k hk => hg k (by omega)) (fun k hk => hl k (by omega)) fun s => ?_
      obtain ⟨x, hx, hk⟩ := h fun k => if k = w then b else s k
      refine ⟨x, ⟨hx, by simpa using hk w (by omega)⟩, fun k hkw => ?_⟩
      have := hk k (by omega)
      rwa [if_neg (by omega : ¬ k = w)] at this
    obtain ⟨x, ⟨cx, hx⟩, bx⟩ := half true
    obtain ⟨y, ⟨cy, hy⟩, bY⟩ := half false
    simp only [if_true] at hx
    simp only [Bool.false_eq_true, if_false] at hy
    have hlw := hl w (by omega)
    by_cases h1 : lo w ≤ g w x
    · refine ⟨x, cx, fun k hk => ?_⟩
      by_cases e : k = w
      · subst e
        exact ⟨h1, hx⟩
      · exact bx k (by omega)
    -- the mix of both that makes just lo w
    have pos : 0 < g w y - g w x := by grind
    have t0 := div_nn (a := lo w - g w x) (b := g w y - g w x) (by grind) pos
    have e1 := div_mul' (a := lo w - g w x) (b := g w y - g w x) (by grind)
    generalize (lo w - g w x) / (g w y - g w x) = t at t0 e1
    have t1 : t ≤ 1 := by
      apply Decidable.byContradiction
      intro hn
      have := Rat.mul_pos (show 0 < t - 1 by grind) pos
      grind
    refine ⟨mixF t x y, hC t x y t0 t1 cx cy, fun k hk => ?_⟩
    rw [hg k hk]
    by_cases e : k = w
    · subst e
      constructor <;> grind
    · obtain ⟨a1, a2⟩ := bx k (by omega)
      obtain ⟨b1, b2⟩ := bY k (by omega)
      have q1 := Rat.mul_nonneg (show 0 ≤ 1 - t by grind) (show 0 ≤ g k x - lo k by grind)
      have q2 := Rat.mul_nonneg t0 (show 0 ≤ g k y - lo k by grind)
      have q3 := Rat.mul_nonneg (show 0 ≤ 1 - t by grind) (show 0 ≤ hi k - g k x by grind)
      have q4 := Rat.mul_nonneg t0 (show 0 ≤ hi k - g k y by grind)
      constructor <;> grind
end Cm
set_option Elab.async false
set_option linter.all false
set_option maxRecDepth 100000
set_option maxHeartbeats 4000000
/-! fractions: common, lowest, plus, minus, times, is_above, over -/
namespace Cs
open PySem PySem.Spec PyProof.Rows L2
abbrev sCommon : Stmt := topS 28
abbrev sLowest : Stmt := topS 29
abbrev sPlus : Stmt := topS 30
abbrev sMinus : Stmt := topS 31
abbrev sTimes : Stmt := topS 32
abbrev sIsAbove : Stmt := topS 33
abbrev sOver : Stmt := topS 43
theorem scCommon : FnScope ["one", "other"] ["one", "other"] (defScope sCommon) := ⟨rfl, rfl, rfl, by decide +kernel, rfl, by decide +kernel, by decide +kernel⟩
theorem scLowest : FnScope ["top", "bottom", "shared"] ["top", "bottom"] (defScope sLowest) := ⟨rfl, rfl, rfl, by decide +kernel, rfl, by decide +kernel, by decide +kernel⟩
theorem scPlus : FnScope ["one", "other"] ["one", "other"] (defScope sPlus) := ⟨rfl, rfl, rfl, by decide +kernel, rfl, by decide +kernel, by decide +kernel⟩
theorem scMinus : FnScope ["one", "other"] ["one", "other"] (defScope sMinus) := ⟨rfl, rfl, rfl, by decide +kernel, rfl, by decide +kernel, by decide +kernel⟩
theorem scTimes : FnScope ["one", "other"] ["one", "other"] (defScope sTimes) := ⟨rfl, rfl, rfl, by decide +kernel, rfl, by decide +kernel, by decide +kernel⟩
theorem scIsAbove : FnScope ["one", "other"] ["one", "other"] (defScope sIsAbove) := ⟨rfl, rfl, rfl, by decide +kernel, rfl, by decide +kernel, by decide +kernel⟩
theorem scOver : FnScope ["one", "other"] ["one", "other"] (defScope sOver) := ⟨rfl, rfl, rfl, by decide +kernel, rfl, by decide +kernel, by decide +kernel⟩
/-! ### sizes -/
/-- top and bottom below 2 ^ n -/
def Sz (n : Nat) (q : Rat) : Prop := q.num.natAbs < 2 ^ n ∧ q.den < 2 ^ n
theorem Sz.mono {n m : Nat} {q : Rat} (h : Sz n q) (l : n ≤ m) : Sz m q :=
  ⟨Nat.lt_of_lt_of_le h.1 (Nat.pow_le_pow_right (by decide) l), Nat.lt_of_lt_of_le h.2 (Nat.pow_le_pow_right (by decide) l)⟩
section
variable {P : Program} {w : World} {K : PySem.W.Frag} {mg : Str → Option Value} {base : Heap}
def spCommon : Sp := fun vs H Q _ => ∃ (a b : Nat), vs = [.int a, .int b] ∧ Q (.int (Nat.gcd a b : Nat)) H
theorem c_common (D : DefAt K mg "common" sCommon ["one", "other"]) : Cal P w K mg base 1 "common" ["one", "other"] spCommon := by
  refine D.cal fun f fd F => ?_
  refine F.ok scCommon (fun vs H Q E h => ?_) (fun cdv A outer s H vs Q E hr h => ?_)
  · obtain ⟨a, b, rfl, _⟩ := h
    rfl
  · obtain ⟨a, b, rfl, q⟩ := h
    refine ⟨_, pss_cons (ps_while PassesOwn.never (pt_cmpR op_gt (pv 1) pe_int (nomark _)) (pss_one (ps_par (i := 0) (j := 1) rfl scCommon.nd rfl rfl (by decide) rfl rfl (pa_cons (pv 1) (pa_cons (pe_op op_modN (pv 0) (pv 1)) pa_nil)) (by rfl))))
      (pss_one (ps_ret (pv 0))), ?_⟩
    refine while_by (fun σ H' => H' = H ∧ ∃ c d : Nat, σ = [some (.int c), some (.int d)] ∧ Nat.gcd c d = Nat.gcd a b) (fun σ H' => match σ with
      | [_, some (.int d)] => d.toNat
      | _ => 0) ⟨rfl, a, b, rfl, rfl⟩ ?_ ?_
    · rintro σ H' ⟨rfl, c, d, rfl, e⟩
      refine ⟨_, rfl, _, _, rfl, rfl, _, rfl, ?_⟩
      by_cases hd : (0 : Int) < d
      · rw [decide_eq_true hd]
        refine iteT ?_
        have hm : (c : Int).fmod d = ((c % d : Nat) : Int) := by
          rw [Int.fmod_eq_emod_of_nonneg _ (by omega)]
          rfl
        refine ⟨_, rfl, _, rfl, _, rfl, _, _, rfl, rfl, by omega, _, _, rfl, ?_⟩
        refine ⟨⟨rfl, d, c % d, ?_, ?_⟩, ?_⟩
        · show [some (V.int d), some (V.int ((c : Int).fmod d))] = _
          rw [hm]
        · rw [← e, Nat.gcd_comm c d, Nat.gcd_rec d c, Nat.gcd_comm]
        · show ((c : Int).fmod d).toNat < (d : Int).toNat
          rw [hm]
          have := Nat.mod_lt c (show d > 0 by omega)
          omega
      · rw [decide_eq_false hd]
        refine iteF ?_
        have d0 : d = 0 := by omega
        subst d0
        refine ⟨_, rfl, ?_⟩
        rw [Nat.gcd_zero_right] at e
        rw [e]
        exact q
    · rintro σ H' Q1 Q2 hq ⟨v, h1, i, j, h2, h3, k, h4, h5⟩
      exact ⟨v, h1, i, j, h2, h3, k, h4, hq _ _ h5⟩
def spLowest (K : PySem.W.Frag) : Sp := fun vs H Q _ => ∃ (t : Int) (b : Nat), vs = [.int t, .int b] ∧ 0 < b ∧ b < 2 ^ 9000 ∧ ∀ H' v, Same H H' → Fr K H' v (mkRat t b) → Q v H'
theorem fr_new {H : Hp} {p : Addr} {t b : Int} {q : Rat} (h1 : t = q.num) (h2 : b = q.den) : Fr K (upd H p (.tup [.int t, .int b])) (.ref p) q :=
  ⟨p, rfl, .inl (.inl (by rw [upd_same, h1, h2]))⟩
theorem c_lowest (D : DefAt K mg "lowest" sLowest ["top", "bottom"]) (C : Cal P w K mg base 1 "common" ["one", "other"] spCommon) (ma : mg "abs" = none) : Cal P w K mg base 2 "lowest" ["top", "bottom"] (spLowest K) := by
  refine D.cal fun f fd F => ?_
  refine F.ok scLowest (fun vs H Q E h => ?_) (fun cdv A outer s H vs Q E hr h => ?_)
  · obtain ⟨a, b, rfl, _⟩ := h
    rfl
  · obtain ⟨t, b, rfl, hb, hz, q⟩ := h
    refine ⟨_, pss_cons (ps_set (i := 2) scLowest.nd rfl (.inl rfl) (pe_cal C hr (pa_cons (pe_callB call_abs (by rfl) ma (by decide +kernel) (pa_cons (pv 0) pa_nil)) (pa_cons (pv 1) pa_nil))))
      (pss_one (ps_ret (pe_tup (pa_cons (pe_op op_fdivW (pv 0) (pv 2)) (pa_cons (pe_op op_fdivW (pv 1) (pv 2)) pa_nil))))), ?_⟩
    have ea : (if t < 0 then -t else t) = (t.natAbs : Int) := by
      split <;> omega
    have hg : 0 < Nat.gcd t.natAbs b := Nat.gcd_pos_of_pos_right _ hb
    have hgz : (Nat.gcd t.natAbs b : Int).natAbs < 2 ^ 9000 := Nat.lt_of_le_of_lt (by rw [Int.natAbs_natCast]; exact Nat.gcd_le_right _ hb) hz
    have hd : ∀ i, CDivW i (Nat.gcd t.natAbs b : Nat) := fun i => wide_div (by omega) hgz (by decide) (by decide)
    refine ⟨_, rfl, _, rfl, _, rfl, t.natAbs, b, ?_, ?_⟩
    · rw [ea]
      rfl
    · refine ⟨_, rfl, _, rfl, _, _, rfl, rfl, hd _, _, rfl, _, rfl, _, _, rfl, rfl, hd _, (by show 2 ≤ sizeLine; decide), fun p hp => ?_⟩
      refine q _ _ (Same.new hp) (fr_new ?_ ?_)
      · rw [Rat.num_mkRat, if_neg (by omega), Nat.gcd_comm b]
      · rw [Rat.den_mkRat, if_neg (by omega), Nat.gcd_comm b]
        rfl
end
section
variable {X : Cx}
def rNum (K : PySem.W.Frag) : R2 := fun x y H Q => ∃ q, Fr K H x q ∧ y = .int 0 ∧ Q (.int q.num) H
def rDen (K : PySem.W.Frag) : R2 := fun x y H Q => ∃ q, Fr K H x q ∧ y = .int 1 ∧ Q (.int q.den) H
theorem ix_num : IxR X (rNum X.K) := fun o i pins s σ H x y v u Q I rx ry ⟨q, ⟨a, e, hs⟩, hy, hq⟩ => ix_tup o i pins s σ H x y v u Q I rx ry ⟨a, _, 0, _, e, hy, hs, atI_nat (j := 0) rfl, hq⟩
theorem ix_den : IxR X (rDen X.K) := fun o i pins s σ H x y v u Q I rx ry ⟨q, ⟨a, e, hs⟩, hy, hq⟩ => ix_tup o i pins s σ H x y v u Q I rx ry ⟨a, _, 1, _, e, hy, hs, atI_nat (j := 1) rfl, hq⟩
/-- rules whose reading names the written part: K said by hand (a block's context is another one) -/
theorem ix_numK (K : PySem.W.Frag) (h : X.K = K := by rfl) : IxR X (rNum K) := h ▸ ix_num
theorem ix_denK (K : PySem.W.Frag) (h : X.K = K := by rfl) : IxR X (rDen K) := h ▸ ix_den
theorem ix_tupK (K : PySem.W.Frag) (h : X.K = K := by rfl) : IxR X (rIxT K) := h ▸ ix_tup
theorem ix_lstK (K : PySem.W.Frag) (h : X.K = K := by rfl) : IxR X (rIxL K) := h ▸ ix_list
theorem op_neK (K : PySem.W.Frag) (hu : X.A.units + 64 < cLine) (h : X.K = K := by rfl) : OpR X (compareOp .NotEq) (rNeD K) := h ▸ op_neD hu
theorem op_eqK (K : PySem.W.Frag) (hu : X.A.units + 64 < cLine) (h : X.K = K := by rfl) : OpR X (compareOp .Eq) (rEqD K) := h ▸ op_eqD hu
theorem pe_num (K : PySem.W.Frag) (i : Nat) {x : Str} {p p1 p2 : Pos} {j} (hN : X.N[i]? = some x := by rfl) (hv : Vis X.env.scope x := by first | exact Or.inl rfl | exact Or.inr (Or.inl rfl) | exact Or.inr (Or.inr rfl)) (hd : (x == ("__debug__" : Str)) = false := by decide)
    (hcd : (x == ("__classdict__" : Str)) = false := by decide) (h : X.K = K := by rfl) : PE X (.Subscript (.Name x p) (.Constant (.int 0) j p1) p2) (tOp (rNum K) (tVar i) (tC (.int 0))) := pe_ix (ix_numK K h) (pv i hN hv hd hcd) pe_int (fun _ _ => rfl)
theorem pe_den (K : PySem.W.Frag) (i : Nat) {x : Str} {p p1 p2 : Pos} {j} (hN : X.N[i]? = some x := by rfl) (hv : Vis X.env.scope x := by first | exact Or.inl rfl | exact Or.inr (Or.inl rfl) | exact Or.inr (Or.inr rfl)) (hd : (x == ("__debug__" : Str)) = false := by decide)
    (hcd : (x == ("__classdict__" : Str)) = false := by decide) (h : X.K = K := by rfl) : PE X (.Subscript (.Name x p) (.Constant (.int 1) j p1) p2) (tOp (rDen K) (tVar i) (tC (.int 1))) := pe_ix (ix_denK K h) (pv i hN hv hd hcd) pe_int (fun _ _ => rfl)
end
theorem sz_mul {a b : Int} {n m : Nat} (ha : a.natAbs < 2 ^ n) (hb : b.natAbs < 2 ^ m) (hn : 0 < n := by decide) (hm : 0 < m := by decide) (h : n + m ≤ 1000000 := by decide) : CMulW a b := wide_mul ha hb hn hm h
theorem Sz.d {n : Nat} {q : Rat} (h : Sz n q) : (q.den : Int).natAbs < 2 ^ n := h.2
section
variable {P : Program} {w : World} {K : PySem.W.Frag} {mg : Str → Option Value} {base : Heap}
/-- two fractions of at most 2000 bits each, one fraction back -/
def spTwo (K : PySem.W.Frag) (g : Rat → Rat → Rat) : Sp := fun vs H Q _ => ∃ (x y : V) (a b : Rat), vs = [x, y] ∧ Fr K H x a ∧ Fr K H y b ∧ Sz 2000 a ∧ Sz 2000 b ∧ ∀ H' v, Same H H' → Fr K H' v (g a b) → Q v H'
theorem den_mul {a b : Rat} (ha : Sz 2000 a) (hb : Sz 2000 b) : 0 < a.den * b.den ∧ a.den * b.den < 2 ^ 9000 := by
  refine ⟨Nat.mul_pos a.den_pos b.den_pos, ?_⟩
  have h := Nat.mul_lt_mul'' ha.2 hb.2
  rw [← Nat.pow_add] at h
  exact Nat.lt_of_lt_of_le h (Nat.pow_le_pow_right (by decide) (by decide))
theorem c_plus (D : DefAt K mg "plus" sPlus ["one", "other"]) (C : Cal P w K mg base 2 "lowest" ["top", "bottom"] (spLowest K)) : Cal P w K mg base 3 "plus" ["one", "other"] (spTwo K (· + ·)) := by
  refine D.cal fun f fd F => ?_
  refine F.ok scPlus (fun vs H Q E h => ?_) (fun cdv A outer s H vs Q E hr h => ?_)
  · obtain ⟨x, y, a, b, rfl, _⟩ := h
    rfl
  · obtain ⟨x, y, a, b, rfl, ha, hb, za, zb, q⟩ := h
    refine ⟨_, pss_one (ps_ret (pe_cal C hr (pa_cons (pe_op op_add (pe_op op_mulW (pe_num K 0) (pe_den K 1)) (pe_op op_mulW (pe_num K 1) (pe_den K 0))) (pa_cons (pe_op op_mulW (pe_den K 0) (pe_den K 1)) pa_nil)))), ?_⟩
    obtain ⟨h0, h9⟩ := den_mul za zb
    refine ⟨_, rfl, a, ha, rfl, _, rfl, b, hb, rfl, _, _, rfl, rfl, sz_mul za.1 zb.d, _, rfl, b, hb, rfl, _, rfl, a, ha, rfl, _, _, rfl, rfl, sz_mul zb.1 za.d, _, _, rfl, rfl, _, rfl, a, ha, rfl, _, rfl, b, hb, rfl, _, _, rfl, rfl, sz_mul za.d zb.d,
      _, a.den * b.den, rfl, h0, h9, fun H' v hs hv => q _ _ hs ?_⟩
    show Fr K H' v (a + b)
    rw [Rat.add_def']
    exact hv
theorem c_minus (D : DefAt K mg "minus" sMinus ["one", "other"]) (C : Cal P w K mg base 2 "lowest" ["top", "bottom"] (spLowest K)) : Cal P w K mg base 3 "minus" ["one", "other"] (spTwo K (· - ·)) := by
  refine D.cal fun f fd F => ?_
  refine F.ok scMinus (fun vs H Q E h => ?_) (fun cdv A outer s H vs Q E hr h => ?_)
  · obtain ⟨x, y, a, b, rfl, _⟩ := h
    rfl
  · obtain ⟨x, y, a, b, rfl, ha, hb, za, zb, q⟩ := h
    refine ⟨_, pss_one (ps_ret (pe_cal C hr (pa_cons (pe_op op_sub (pe_op op_mulW (pe_num K 0) (pe_den K 1)) (pe_op op_mulW (pe_num K 1) (pe_den K 0))) (pa_cons (pe_op op_mulW (pe_den K 0) (pe_den K 1)) pa_nil)))), ?_⟩
    obtain ⟨h0, h9⟩ := den_mul za zb
    refine ⟨_, rfl, a, ha, rfl, _, rfl, b, hb, rfl, _, _, rfl, rfl, sz_mul za.1 zb.d, _, rfl, b, hb, rfl, _, rfl, a, ha, rfl, _, _, rfl, rfl, sz_mul zb.1 za.d, _, _, rfl, rfl, _, rfl, a, ha, rfl, _, rfl, b, hb, rfl, _, _, rfl, rfl, sz_mul za.d zb.d,
      _, a.den * b.den, rfl, h0, h9, fun H' v hs hv => q _ _ hs ?_⟩
    show Fr K H' v (a - b)
    rw [Rat.sub_def']
    exact hv
theorem c_times (D : DefAt K mg "times" sTimes ["one", "other"]) (C : Cal P w K mg base 2 "lowest" ["top", "bottom"] (spLowest K)) : Cal P w K mg base 3 "times" ["one", "other"] (spTwo K (· * ·)) := by
  refine D.cal fun f fd F => ?_
  refine F.ok scTimes (fun vs H Q E h => ?_) (fun cdv A outer s H vs Q E hr h => ?_)
  · obtain ⟨x, y, a, b, rfl, _⟩ := h
    rfl
  · obtain ⟨x, y, a, b, rfl, ha, hb, za, zb, q⟩ := h
    refine ⟨_, pss_one (ps_ret (pe_cal C hr (pa_cons (pe_op op_mulW (pe_num K 0) (pe_num K 1)) (pa_cons (pe_op op_mulW (pe_den K 0) (pe_den K 1)) pa_nil)))), ?_⟩
    obtain ⟨h0, h9⟩ := den_mul za zb
    refine ⟨_, rfl, a, ha, rfl, _, rfl, b, hb, rfl, _, _, rfl, rfl, sz_mul za.1 zb.1, _, rfl, a, ha, rfl, _, rfl, b, hb, rfl, _, _, rfl, rfl, sz_mul za.d zb.d,
      _, a.den * b.den, rfl, h0, h9, fun H' v hs hv => q _ _ hs ?_⟩
    have e : a * b = mkRat (a.num * b.num) (a.den * b.den) := by rw [Rat.mul_def, Rat.normalize_eq_mkRat]
    show Fr K H' v (a * b)
    rw [e]
    exact hv
def spAbove (K : PySem.W.Frag) : Sp := fun vs H Q _ => ∃ (x y : V) (a b : Rat), vs = [x, y] ∧ Fr K H x a ∧ Fr K H y b ∧ Sz 2000 a ∧ Sz 2000 b ∧ Q (.bl (decide (b < a))) H
theorem c_is_above (D : DefAt K mg "is_above" sIsAbove ["one", "other"]) : Cal P w K mg base 1 "is_above" ["one", "other"] (spAbove K) := by
  refine D.cal fun f fd F => ?_
  refine F.ok scIsAbove (fun vs H Q E h => ?_) (fun cdv A outer s H vs Q E hr h => ?_)
  · obtain ⟨x, y, a, b, rfl, _⟩ := h
    rfl
  · obtain ⟨x, y, a, b, rfl, ha, hb, za, zb, q⟩ := h
    refine ⟨_, pss_one (ps_ret (pe_cmpR op_gt (pe_op op_mulW (pe_num K 0) (pe_den K 1)) (pe_op op_mulW (pe_num K 1) (pe_den K 0)) (nomark _))), ?_⟩
    refine ⟨_, rfl, a, ha, rfl, _, rfl, b, hb, rfl, _, _, rfl, rfl, sz_mul za.1 zb.d, _, rfl, b, hb, rfl, _, rfl, a, ha, rfl, _, _, rfl, rfl, sz_mul zb.1 za.d, _, _, rfl, rfl, ?_⟩
    rw [show decide (b < a) = decide (b.num * ↑a.den < a.num * ↑b.den) from decide_eq_decide.mpr (Rat.lt_iff b a)] at q
    exact q
def spOver (K : PySem.W.Frag) : Sp := fun vs H Q _ => ∃ (x y : V) (a b : Rat), vs = [x, y] ∧ Fr K H x a ∧ Fr K H y b ∧ Sz 2000 a ∧ Sz 2000 b ∧ b ≠ 0 ∧ ∀ H' v, Same H H' → Fr K H' v (a / b) → Q v H'
theorem inv_parts {b : Rat} (h : b.num ≠ 0) : b⁻¹.num = b.num.sign * b.den ∧ (b⁻¹.den : Int) = b.num.natAbs := by
  refine ⟨Rat.num_inv b, ?_⟩
  rw [Rat.den_inv, if_neg h]
theorem sz_inv {b : Rat} {n : Nat} (h : Sz n b) (nb : b.num ≠ 0) : Sz n b⁻¹ := by
  obtain ⟨h1, h2⟩ := inv_parts nb
  refine ⟨?_, ?_⟩
  · rw [h1, Int.natAbs_mul, Int.natAbs_sign_of_ne_zero nb, Nat.one_mul]
    exact h.2
  · have e : b⁻¹.den = b.num.natAbs := by omega
    rw [e]
    exact h.1
theorem c_over (D : DefAt K mg "over" sOver ["one", "other"]) (C : Cal P w K mg base 3 "times" ["one", "other"] (spTwo K (· * ·))) : Cal P w K mg base 4 "over" ["one", "other"] (spOver K) := by
  refine D.cal fun f fd F => ?_
  refine F.ok scOver (fun vs H Q E h => ?_) (fun cdv A outer s H vs Q E hr h => ?_)
  · obtain ⟨x, y, a, b, rfl, _⟩ := h
    rfl
  · obtain ⟨x, y, a, b, rfl, ha, hb, za, zb, nb, q⟩ := h
    refine ⟨_, pss_one (ps_ret (pe_cal C hr (pa_cons (pv 0) (pa_cons (pe_ifExp (pt_cmpR op_gt (pe_num K 1) pe_int (nomark _)) (pe_tup (pa_cons (pe_den K 1) (pa_cons (pe_num K 1) pa_nil))) (pe_tup (pa_cons (pe_op op_sub pe_int (pe_den K 1)) (pa_cons (pe_op op_sub pe_int (pe_num K 1)) pa_nil)))) pa_nil)))), ?_⟩
    have n0 : b.num ≠ 0 := fun z => nb (Rat.num_eq_zero.mp z)
    obtain ⟨h1, h2⟩ := inv_parts n0
    refine ⟨_, rfl, _, rfl, b, hb, rfl, _, _, rfl, rfl, _, rfl, ite2 (fun e => ?_) (fun e => ?_)⟩
    · have e := of_decide_eq_true e
      refine ⟨_, rfl, b, hb, rfl, _, rfl, b, hb, rfl, (by show 2 ≤ sizeLine; decide), fun p hp => ?_⟩
      have hs := Same.new (o := .tup [.int b.den, .int b.num]) hp
      have e2 : b.num.sign = 1 := Int.sign_eq_one_of_pos e
      refine ⟨_, _, a, b⁻¹, rfl, ha.same hs, fr_new ?_ ?_, za, sz_inv zb n0, fun H' v s2 hv => q _ _ (hs.trans s2) ?_⟩
      · rw [h1, e2, Int.one_mul]
      · omega
      · rw [Rat.div_def]
        exact hv
    · have e : ¬ (0 < b.num) := fun z => e (decide_eq_true z)
      refine ⟨_, rfl, b, hb, rfl, _, _, rfl, rfl, _, rfl, b, hb, rfl, _, _, rfl, rfl, (by show 2 ≤ sizeLine; decide), fun p hp => ?_⟩
      have hs := Same.new (o := .tup [.int (0 - b.den), .int (0 - b.num)]) hp
      have e2 : b.num.sign = -1 := Int.sign_eq_neg_one_of_neg (by omega)
      refine ⟨_, _, a, b⁻¹, rfl, ha.same hs, fr_new ?_ ?_, za, sz_inv zb n0, fun H' v s2 hv => q _ _ (hs.trans s2) ?_⟩
      · rw [h1, e2]
        omega
      · omega
      · rw [Rat.div_def]
        exact hv
end
end Cs
set_option Elab.async false
set_option linter.all false
set_option maxRecDepth 100000
set_option maxHeartbeats 4000000
/-! comprehensions by data; constants; lists of fractions; less -/
namespace Cs
open PySem PySem.Spec PyProof.Rows L2
/-! ### equal data -/
theorem fr_shaped (q : Rat) : SeqAt.shaped (fr q) = true := rfl
theorem fr_eqv (a b : Rat) : PyData.eqv (fr a) (fr b) = decide (a = b) := by
  simp only [fr, PyData.eqv, PyData.eqvAll, Bool.and_true]
  by_cases h : a = b
  · subst h
    simp
  · rw [decide_eq_false h]
    by_cases h1 : a.num = b.num
    · have h2 : a.den ≠ b.den := fun z => h (Rat.ext h1 z)
      simp [h1]
      omega
    · simp [h1]
/-! ### a comprehension by what it fills in -/
section
variable {J : It} {n : Nat} {G : Hp → Prop} {Y : Nat → Hp → V → Hp → Prop} {K : PySem.W.Frag}
theorem lc_gen (w : Walk J n G Y) {g : TG} {te : TE} {vs : List Nat} {σ : L2.St} {H1 : Hp} {D : Addr} {Qd : Hp → Prop} (X : List Addr) (I : Nat → Hp → List PyData → Prop) (hn : n ≤ 1000)
    (h0 : I 0 (upd H1 D (.lst [])) []) (hG : ∀ i H ds, I i H ds → G H) (hI : ∀ i H ds xs, I i H ds → I i (upd H D (.lst xs)) ds)
    (hs : ∀ i x H H' ds xs (Q : VK), i < n → ds.length = i → I i H ds → H D = some (.lst xs) → DpAll K (cutH (D :: X) H) xs ds → Y i H x H' →
      (∀ y H3 d, H3 D = some (.lst xs) → Same (cutH (D :: X) H) (cutH (D :: X) H3) → Dp K (cutH (D :: X) H3) y d → I (i + 1) H3 (ds ++ [d]) → Q y H3) →
      g x (wipe σ vs) H' fun σ2 H2 => wipe σ2 vs = wipe σ vs ∧ te σ2 H2 Q)
    (hd : ∀ H xs ds, ds.length = n → I n H ds → H D = some (.lst xs) → DpAll K (cutH (D :: X) H) xs ds → Qd H) :
    ∃ W : Nat → Nat → Hp → Prop, (∃ m, W 0 m (upd H1 D (.lst []))) ∧ ∀ i m H, W i m H →
      (J.stop i H ∧ Qd H) ∨ (J.go i H ∧ ∃ Nx : Hp → Prop, (∀ H', Nx H' → ∃ m', m' < m ∧ W (i + 1) m' H') ∧ ∀ x H', J.yld i H x H' → g x (wipe σ vs) H' fun σ2 H2 => wipe σ2 vs = wipe σ vs ∧ tYes σ2 H2 fun b H3 =>
        if b = true then te σ2 H3 fun y H4 => ∃ acc, H4 D = some (.lst acc) ∧ acc.length < sizeLine ∧ Nx (upd H4 D (.lst (acc ++ [y]))) else Nx H3) := by
  have cutD : ∀ {H : Hp} {o : HO}, cutH (D :: X) (upd H D o) = cutH (D :: X) H := fun {H o} => cut_in List.mem_cons_self
  refine lc_it w (fun i H => ∃ xs ds, H D = some (.lst xs) ∧ ds.length = i ∧ DpAll K (cutH (D :: X) H) xs ds ∧ I i H ds) ⟨[], [], upd_same, rfl, .nil, h0⟩ (fun i H _ ⟨xs, ds, _, _, _, h⟩ => hG i H ds h) ?_ ?_
  · rintro i x H H' hi ⟨xs, ds, eD, hl, ha, hI'⟩ hy
    have step := hs i x H H' ds xs (fun y H4 => ∃ acc, H4 D = some (.lst acc) ∧ acc.length < sizeLine ∧ ∃ xs ds, (upd H4 D (.lst (acc ++ [y]))) D = some (.lst xs) ∧ ds.length = i + 1 ∧ DpAll K (cutH (D :: X) (upd H4 D (.lst (acc ++ [y])))) xs ds ∧ I (i + 1) (upd H4 D (.lst (acc ++ [y]))) ds) hi hl hI' eD ha hy ?_
    · exact step
    · intro y H3 d e3 s3 dy i3
      refine ⟨xs, e3, ?_, xs ++ [y], ds ++ [d], upd_same, by rw [List.length_append, hl]; rfl, ?_, hI _ _ _ _ i3⟩
      · rw [ha.length, hl]
        exact small1000 (by omega)
      · rw [cutD]
        exact (ha.same s3).append (.cons dy .nil)
  · rintro H ⟨xs, ds, eD, hl, ha, h⟩
    exact hd H xs ds hl h eD ha
/-- each item to its own datum, the heap only grows -/
theorem lc_map (w : Walk J n G Y) {g : TG} {te : TE} {vs : List Nat} {σ : L2.St} {H1 : Hp} {D : Addr} {Qd : Hp → Prop} (X : List Addr) (ds : List PyData) (hX : Xin X H1) (hD : H1 D = none) (hn : ds.length = n) (hn2 : n ≤ 1000) (hG : ∀ H, Same H1 H → G H)
    (hs : ∀ i x H H' d (Q : VK), ds[i]? = some d → Same H1 H → Same (cutH X H1) (cutH (D :: X) H) → Xin (D :: X) H → Y i H x H' →
      (∀ y H3, Same H H3 → Dp K (cutH (D :: X) H3) y d → Q y H3) → g x (wipe σ vs) H' fun σ2 H2 => wipe σ2 vs = wipe σ vs ∧ te σ2 H2 Q)
    (hd : ∀ H, Same H1 H → Dp K (cutH X H) (.ref D) (.list ds) → Qd H) :
    ∃ W : Nat → Nat → Hp → Prop, (∃ m, W 0 m (upd H1 D (.lst []))) ∧ ∀ i m H, W i m H →
      (J.stop i H ∧ Qd H) ∨ (J.go i H ∧ ∃ Nx : Hp → Prop, (∀ H', Nx H' → ∃ m', m' < m ∧ W (i + 1) m' H') ∧ ∀ x H', J.yld i H x H' → g x (wipe σ vs) H' fun σ2 H2 => wipe σ2 vs = wipe σ vs ∧ tYes σ2 H2 fun b H3 =>
        if b = true then te σ2 H3 fun y H4 => ∃ acc, H4 D = some (.lst acc) ∧ acc.length < sizeLine ∧ Nx (upd H4 D (.lst (acc ++ [y]))) else Nx H3) := by
  refine lc_gen (K := K) w X (fun i H es => Same H1 H ∧ es = ds.take i) hn2 ⟨Same.new hD, rfl⟩ (fun i H es h => hG H h.1) (fun i H es xs h => ⟨fun b o e => ?_, h.2⟩) ?_ ?_
  · rw [upd_ne (ne_of_none e hD)]
    exact h.1 b o e
  · rintro i x H H' es xs Q hi hl ⟨s1, rfl⟩ eD ha hy k
    have hi2 : i < ds.length := by omega
    have g1 : ds[i]? = some ds[i] := List.getElem?_eq_getElem hi2
    refine hs i x H H' ds[i] Q g1 s1 (fun b o e => ?_) ((hX.same s1).cons eD) hy fun y H3 s3 dy => ?_
    · obtain ⟨e1, e2⟩ := cut_at e
      refine cut_mk (s1 _ _ e1) fun hb => ?_
      rcases List.mem_cons.mp hb with rfl | hb
      · rw [hD] at e1
        cases e1
      · exact e2 hb
    · refine k y H3 ds[i] (s3 _ _ eD) (same_cut s3) dy ⟨s1.trans s3, ?_⟩
      rw [List.take_add_one, g1]
      rfl
  · rintro H xs es hl ⟨s1, rfl⟩ eD ha
    rw [List.take_of_length_le (by omega)] at ha
    refine hd H s1 (.lst (.inl (.inl (cut_mk eD (hX.new hD)))) (ha.same cut_more))
end
end Cs
set_option Elab.async false
set_option linter.all false
set_option maxRecDepth 100000
set_option maxHeartbeats 4000000
/-! rows of fractions: less -/
namespace Cs
open PySem PySem.Spec PyProof.Rows L2
/-! ### constants of the module -/
/-- the module's name x holds a tuple of these two ints -/
def Cst (K : PySem.W.Frag) (mg : Str → Option Value) (x : Str) (q : Rat) : Prop := ∃ a, mg x = some (.ref a) ∧ ∀ H, Fr K H (.ref a) q
section
variable {X : Cx}
def tCst (K : PySem.W.Frag) (q : Rat) : TE := fun σ H Q => ∀ v, Fr K H v q → Q v H
theorem pe_cst {K : PySem.W.Frag} {mg : Str → Option Value} {x : Str} {q : Rat} {pos : Pos} (c : Cst K mg x q) (hg : Gl X x := by rfl) (hd : (x == ("__debug__" : Str)) = false := by decide) (hK : X.K = K := by rfl) (hm : X.mg = mg := by rfl) : PE X (.Name x pos) (tCst K q) := by
  subst hK hm
  obtain ⟨a, h1, h2⟩ := c
  exact ⟨fun pins s σ H Q I h => (pe_glob (v := .ref a) hg h1 rfl hd).run pins s σ H Q I (h _ (h2 H))⟩
end
/-! ### rows -/
def frs (r : List Rat) : List PyData := r.map fr
def fRow (r : List Rat) : PyData := .list (frs r)
def fRows (rs : List (List Rat)) : PyData := .list (rs.map fRow)
def fTup (r : List Rat) : PyData := .tuple (frs r)
def nat (n : Nat) : PyData := .int n
def iRow (ns : List Nat) : PyData := .list (ns.map nat)
def SzAll (n : Nat) (r : List Rat) : Prop := ∀ q ∈ r, Sz n q
theorem frs_at {K : PySem.W.Frag} {H : Hp} {xs : List V} {r : List Rat} {i : Nat} {x : V} (h : DpAll K H xs (frs r)) (e : xs[i]? = some x) : ∃ q, r[i]? = some q ∧ Fr K H x q := by
  obtain ⟨d, e1, e2⟩ := h.at e
  unfold frs at e1
  rw [List.getElem?_map] at e1
  cases e3 : r[i]? with
  | none =>
    rw [e3] at e1
    cases e1
  | some q =>
    rw [e3] at e1
    cases e1
    exact ⟨q, rfl, .of e2⟩
theorem frs_get {K : PySem.W.Frag} {H : Hp} {xs : List V} {r : List Rat} {i : Nat} {q : Rat} (h : DpAll K H xs (frs r)) (e : r[i]? = some q) : ∃ x, xs[i]? = some x ∧ Fr K H x q := by
  obtain ⟨x, e1, e2⟩ := h.get (i := i) (d := fr q) (by rw [frs, List.getElem?_map, e]; rfl)
  exact ⟨x, e1, .of e2⟩
theorem frs_len (r : List Rat) : (frs r).length = r.length := List.length_map _
/-- a pair's target -/
theorem g_pair {K : PySem.W.Frag} {i j : Nat} {T : Addr} {x y : V} {σ : L2.St} {H : Hp} {R : L2.St → Hp → Prop} (h : R ((σ.set i (some x)).set j (some y)) (upd H T (.tup [x, y]))) :
    gTup K 2 (gCons (gName i) (gCons (gName j) gNil)) (.ref T) σ (upd H T (.tup [x, y])) R := ⟨T, [x, y], rfl, .inl (.inl upd_same), rfl, x, [y], rfl, y, [], rfl, rfl, h⟩
section
variable {P : Program} {w : World} {K : PySem.W.Frag} {mg : Str → Option Value} {base : Heap}
abbrev sLess : Stmt := topS 44
theorem scLess : FnScope ["one", "other", "by", "part", "mate"] ["one", "other", "by"] (defScope sLess) := ⟨rfl, rfl, rfl, by decide +kernel, rfl, by decide +kernel, by decide +kernel⟩
def mLess (one other : List Rat) (b : Rat) : List Rat := List.zipWith (fun p m => p - m * b) one other
def spLess (K : PySem.W.Frag) : Sp := fun vs H Q _ => ∃ (X : List Addr) (x y z : V) (one other : List Rat) (b : Rat), vs = [x, y, z] ∧ Xin X H ∧ Dp K (cutH X H) x (fRow one) ∧ Dp K (cutH X H) y (fRow other) ∧ Fr K H z b ∧
  one.length = other.length ∧ one.length ≤ 1000 ∧ SzAll 900 one ∧ SzAll 900 other ∧ Sz 900 b ∧ ∀ H' v, Same H H' → Dp K (cutH X H') v (fRow (mLess one other b)) → Q v H'
theorem sz_mk {t : Int} {b n : Nat} (hb : 0 < b) (h1 : t.natAbs < 2 ^ n) (h2 : b < 2 ^ n) : Sz n (mkRat t b) := by
  have hg : 0 < Nat.gcd b t.natAbs := Nat.gcd_pos_of_pos_left _ hb
  refine ⟨?_, ?_⟩
  · rw [Rat.num_mkRat, if_neg (by omega)]
    refine Nat.lt_of_le_of_lt ?_ h1
    rw [Int.natAbs_ediv_of_dvd (Int.ofNat_dvd_left.mpr (Nat.gcd_dvd_right _ _))]
    exact Nat.div_le_self _ _
  · rw [Rat.den_mkRat, if_neg (by omega)]
    exact Nat.lt_of_le_of_lt (Nat.div_le_self _ _) h2
theorem sz_times {a b : Rat} {n m : Nat} (ha : Sz n a) (hb : Sz m b) : Sz (n + m) (a * b) := by
  rw [Rat.mul_def, Rat.normalize_eq_mkRat]
  refine sz_mk (Nat.mul_pos a.den_pos b.den_pos) (wide_lt ha.1 hb.1) ?_
  rw [Nat.pow_add]
  exact Nat.mul_lt_mul'' ha.2 hb.2
theorem c_less (D : DefAt K mg "less" sLess ["one", "other", "by"]) (M : Cal P w K mg base 3 "minus" ["one", "other"] (spTwo K (· - ·))) (T : Cal P w K mg base 3 "times" ["one", "other"] (spTwo K (· * ·)))
    (mz : mg "zip" = none) (Z : Cst K mg "ZERO" 0) : Cal P w K mg base 4 "less" ["one", "other", "by"] (spLess K) := by
  refine D.cal fun f fd F => ?_
  refine F.ok scLess (fun vs H Q E h => ?_) (fun cdv A outer s H vs Q E hr h => ?_)
  · obtain ⟨X, x, y, z, one, other, b, rfl, _⟩ := h
    rfl
  · obtain ⟨X, x, y, z, one, other, b, rfl, hX, hx, hy, hz, hl, hl2, z1, z2, zb, q⟩ := h
    refine ⟨_, pss_one (ps_ret (pe_lc (own := [("part", 3), ("mate", 4)]) (g := gTup K 2 (gCons (gName 3) (gCons (gName 4) gNil))) (tt := tYes) rfl scLess.nd (pi_zip (by rfl) mz (pa_cons (pv 0) (pa_cons (pv 1) pa_nil)))
      (blkOk_by (own := [("part", 3), ("mate", 4)]) (N := ["one", "other", "by", "part", "mate"]) (sc := defScope sLess) (by decide +kernel)) (fun _ _ _ _ _ => pg_tup rfl (pgs_cons (pg_name (i := 3) scLess.nd rfl (.inl rfl)) (pgs_cons (pg_name (i := 4) scLess.nd rfl (.inl rfl)) pgs_nil))) (fun _ _ _ _ _ => pts_nil)
      (fun _ _ _ _ _ => pe_ifExp (pt_cmpR (op_neK K hr.units) (pv 4) (pe_cst Z) (nomark _)) (pe_cal M hr (pa_cons (pv 3) (pa_cons (pe_cal T hr (pa_cons (pv 4) (pa_cons (pv 2) pa_nil))) pa_nil))) (pv 3)))), ?_⟩
    obtain ⟨a1, xs, rfl, hs1, hd1⟩ := hx.list
    obtain ⟨a2, ys, rfl, hs2, hd2⟩ := hy.list
    refine ⟨_, rfl, _, rfl, a1, a2, xs, ys, rfl, cut_same.seq hs1, cut_same.seq hs2, fun D hD => ?_⟩
    have l1 : xs.length = one.length := by rw [hd1.length, frs_len]
    have l2 : ys.length = other.length := by rw [hd2.length, frs_len]
    have hlen : (mLess one other b).length = one.length := by
      unfold mLess
      rw [List.length_zipWith]
      omega
    refine lc_map (K := K) (walk_zip (n := one.length) (by omega)) X (frs (mLess one other b)) hX hD (by rw [frs_len, hlen]) hl2 (fun H2 s2 => ⟨s2.seq (cut_same.seq hs1), s2.seq (cut_same.seq hs2)⟩) ?_ fun H2 s2 hd => q H2 _ s2 hd
    rintro i v H2 H3 d Q2 hd s2 sc hX2 ⟨T2, x, y, rfl, nT, rfl, ex, ey⟩ k
    obtain ⟨p, ep, hp⟩ := frs_at hd1 ex
    obtain ⟨m, em, hm⟩ := frs_at hd2 ey
    have s3 : Same H2 (upd H2 T2 (.tup [x, y])) := Same.new nT
    have sA : Same (cutH X H) (upd H2 T2 (.tup [x, y])) := cut_same.trans (s2.trans s3)
    have hp := hp.same sA
    have hm := hm.same sA
    have hz := hz.same (s2.trans s3)
    have zp : Sz 900 p := z1 p (List.mem_of_getElem? ep)
    have zm : Sz 900 m := z2 m (List.mem_of_getElem? em)
    have e : d = fr (p - m * b) := by
      have z : (frs (mLess one other b))[i]? = some (fr (p - m * b)) := by
        unfold frs mLess
        rw [List.getElem?_map, List.getElem?_zipWith, ep, em]
        rfl
      rw [hd] at z
      exact Option.some.inj z
    subst e
    refine g_pair ⟨rfl, ?_⟩
    refine ⟨_, rfl, fun vz hvz => ⟨fr m, fr 0, hm.dp, hvz.dp, rfl, rfl, _, rfl, ?_⟩⟩
    rw [fr_eqv]
    by_cases hm0 : m = 0
    · rw [decide_eq_true hm0]
      refine iteF ⟨_, rfl, k _ _ s3 ?_⟩
      have e : p - m * b = p := by rw [hm0]; grind
      rw [e]
      exact (hp.cut (hX2.same s3)).dp
    · rw [decide_eq_false hm0]
      refine iteT ⟨_, rfl, _, rfl, _, rfl, _, _, m, b, rfl, hm, hz, zm.mono (by decide), zb.mono (by decide), fun H4 v4 s4 hv4 => ?_⟩
      refine ⟨_, _, p, m * b, rfl, hp.same s4, hv4, zp.mono (by decide), (sz_times zm zb).mono (by decide), fun H5 v5 s5 hv5 => ?_⟩
      have s6 := s3.trans (s4.trans s5)
      exact k _ _ s6 (hv5.cut (hX2.same s6)).dp
end
end Cs
set_option Elab.async false
set_option linter.all false
set_option maxRecDepth 100000
set_option maxHeartbeats 4000000
/-! the class Frame: __init__, turned -/
namespace Cs
open PySem PySem.Spec PyProof.Rows L2
/-! ### objects of own classes -/
/-- a method that keeps a promise -/
structure MCal (P : Program) (w : World) (K : PySem.W.Frag) (mg : Str → Option Value) (base : Heap) (k : Nat) (C : Addr) (m : Str) (ps : List Str) (sp : Sp) : Prop where
  ex : ∃ f fd, Meth K C m f ∧ FnOk P w K mg base CX0 k f fd ps sp ∧ Binds K fd ps []
/-- a class whose __init__ keeps a promise -/
structure ICal (P : Program) (w : World) (K : PySem.W.Frag) (mg : Str → Option Value) (base : Heap) (k : Nat) (C : Addr) (x : Str) (ps : List Str) (sp : Sp) : Prop where
  ex : ∃ f fd, Mk K C f ∧ FnOk P w K mg base CX0 k f fd ps sp ∧ Binds K fd ps [] ∧ mg x = some (.ref C)
structure MethAt (K : PySem.W.Frag) (C : Addr) (m q : Str) (st : Stmt) (ps : List Str) : Prop where
  ex : ∃ f fd, Fun K m q st f fd ∧ Binds K fd ps [] ∧ Meth K C m f
structure InitAt (K : PySem.W.Frag) (mg : Str → Option Value) (C : Addr) (x q : Str) (st : Stmt) (ps : List Str) : Prop where
  ex : ∃ f fd, Fun K "__init__" q st f fd ∧ Binds K fd ps [] ∧ Mk K C f ∧ mg x = some (.ref C)
section
variable {P : Program} {w : World} {K : PySem.W.Frag} {mg : Str → Option Value} {base : Heap} {k : Nat} {C : Addr} {m q x : Str} {st : Stmt} {ps : List Str} {sp : Sp}
theorem MethAt.cal (D : MethAt K C m q st ps) (h : ∀ f fd, Fun K m q st f fd → FnOk P w K mg base CX0 k f fd ps sp) : MCal P w K mg base k C m ps sp := by
  obtain ⟨f, fd, F, b, g⟩ := D.ex
  exact ⟨f, fd, g, h f fd F, b⟩
theorem InitAt.cal (D : InitAt K mg C x q st ps) (h : ∀ f fd, Fun K "__init__" q st f fd → FnOk P w K mg base CX0 k f fd ps sp) : ICal P w K mg base k C x ps sp := by
  obtain ⟨f, fd, F, b, mk, g⟩ := D.ex
  exact ⟨f, fd, mk, h f fd F, b, g⟩
end
section
variable {X : Cx} {k j : Nat} {C : Addr} {x m : Str} {ps : List Str} {sp : Sp} {p pos apos : Pos} {e o : Expr} {es : List Expr} {t : TA} {ta te tv : TE} {f : Str}
theorem pe_new (D : ICal X.prog X.w X.K X.mg X.base k C x ps sp) (hr : Room j X.A) (ha : PA X (e :: es) t) (hkj : k + 1 ≤ j := by decide) (hg : Gl X x := by rfl) (hdb : (x == ("__debug__" : Str)) = false := by decide)
    (he : starEach (e :: es) X.env = (false, eval e X.env) :: starEach es X.env := by rfl) (hpl : (backTo pos (starEach es X.env)).any (·.1) = false := by rfl) :
    PE X (.Call (.Name x p) (e :: es) [] pos) (tMake C sp [] E0 t) := by
  obtain ⟨f, fd, mk, F, b, g⟩ := D.ex
  exact pe_make mk F (hr.mono hkj) hg g b .nil (fun _ _ _ _ _ _ _ h => h.elim) ha hdb he hpl
theorem pe_fldK (K : PySem.W.Frag) (he : PE X e ta) (hb : attributeBase e f X.env (eval e X.env) = eval e X.env := by rfl) (h : X.K = K := by rfl) : PE X (.Attribute e f pos) (tFld K ta f) := h ▸ pe_fld he hb
end
/-! ### frames -/
/-- the class Frame -/
structure FrameC (K : PySem.W.Frag) (C : Addr) : Prop where
  cl : Cls K C
  nL : NoAttr K C "lines"
  nB : NoAttr K C "basis"
def frF (l b : V) : List (Str × V) := [("lines", l), ("basis", b)]
theorem lb : ¬ (("lines" : Str) = "basis") := by decide +kernel
theorem frF_put (l b : V) : putF "basis" b (putF "lines" l []) = frF l b := by
  show (if ("lines" : Str) = "basis" then _ else (("lines" : Str), l) :: putF "basis" b []) = _
  rw [if_neg lb]
  rfl
/-- v is a frame with these rows and this basis; X is not under it -/
def FrameAt (K : PySem.W.Frag) (C : Addr) (X : List Addr) (H : Hp) (v : V) (rows : List (List Rat)) (basis : List Nat) : Prop :=
  ∃ a dx l b, v = .ref a ∧ H a = some (.ins C dx (frF l b)) ∧ Dp K (cutH X H) l (fRows rows) ∧ Dp K (cutH X H) b (iRow basis)
theorem FrameAt.same {K : PySem.W.Frag} {C : Addr} {X : List Addr} {H H' : Hp} {v : V} {rows : List (List Rat)} {basis : List Nat} (h : FrameAt K C X H v rows basis) (s : Same H H') : FrameAt K C X H' v rows basis := by
  obtain ⟨a, dx, l, b, e, ha, hl, hb⟩ := h
  exact ⟨a, dx, l, b, e, s _ _ ha, hl.same (same_cut s), hb.same (same_cut s)⟩
section
variable {P : Program} {w : World} {K : PySem.W.Frag} {mg : Str → Option Value} {base : Heap}
abbrev sFrInit : Stmt := inClass (topS 45) 0
abbrev sTurned : Stmt := inClass (topS 45) 1
theorem scFrInit : FnScope ["self", "rows", "basis"] ["self", "rows", "basis"] (defScope sFrInit) := ⟨rfl, rfl, rfl, by decide +kernel, rfl, by decide +kernel, by decide +kernel⟩
abbrev nTurned : List Str := ["self", "place", "column", "own", "rows", "part", "index", "row", "each"]
theorem scTurned : FnScope nTurned ["self", "place", "column"] (defScope sTurned) := ⟨rfl, rfl, rfl, by decide +kernel, rfl, by decide +kernel, by decide +kernel⟩
def spFrInit (C : Addr) : Sp := fun vs H Q _ => ∃ (p dx : Addr) (l b : V), vs = [.ref p, l, b] ∧ H p = some (.ins C dx []) ∧ ∀ H', H' p = some (.ins C dx (frF l b)) → (∀ c o, H c = some o → c ≠ p → H' c = some o) → Q .non H'
theorem c_frinit {C : Addr} (D : InitAt K mg C "Frame" "Frame.__init__" sFrInit ["self", "rows", "basis"]) (T : FrameC K C) : ICal P w K mg base 1 C "Frame" ["self", "rows", "basis"] (spFrInit C) := by
  refine D.cal fun f fd F => ?_
  refine F.ok scFrInit (fun vs H Q E h => ?_) (fun cdv A outer s H vs Q E hr h => ?_)
  · obtain ⟨p, dx, l, b, rfl, _⟩ := h
    rfl
  · obtain ⟨p, dx, l, b, rfl, hp, q⟩ := h
    refine ⟨_, pss_cons (ps_fld (pv 0) (pv 1) rfl) (pss_one (ps_fld (pv 0) (pv 2) rfl)), ?_⟩
    refine ⟨_, rfl, _, rfl, p, C, dx, [], rfl, hp, T.cl, T.nL, (by show 0 < 1000; decide), _, rfl, _, rfl, p, C, dx, _, rfl, upd_same, T.cl, T.nB, (by show 1 < 1000; decide), ?_⟩
    refine q _ ?_ fun c o e n => ?_
    · rw [upd_same, frF_put]
    · rw [upd_ne n, upd_ne n]
      exact e
/-- a new frame -/
theorem fr_made {C : Addr} {X : List Addr} {H1 H' : Hp} {x dx : Addr} {l b : V} {rows : List (List Rat)} {basis : List Nat} (nx : H1 x = none) (nd : H1 dx = none) (e : H' x = some (.ins C dx (frF l b)))
    (kp : ∀ c o, upd (upd H1 dx (.own x)) x (.ins C dx []) c = some o → c ≠ x → H' c = some o) (hl : Dp K (cutH X H1) l (fRows rows)) (hb : Dp K (cutH X H1) b (iRow basis)) : Same H1 H' ∧ FrameAt K C X H' (.ref x) rows basis := by
  have s : Same H1 H' := Same.made nx nd kp
  exact ⟨s, x, dx, l, b, rfl, e, hl.same (same_cut s), hb.same (same_cut s)⟩
def mOwn (rp : List Rat) (piv : Rat) : List Rat := rp.map (· / piv)
def mRow (p c : Nat) (own : List Rat) (i : Nat) (row : List Rat) : List Rat := if i = p then own else mLess row own (row.getD c 0)
/-- the rows turned at a place -/
def mTurn (rows : List (List Rat)) (p c : Nat) : List (List Rat) :=
  rows.mapIdx (mRow p c (mOwn (rows.getD p []) ((rows.getD p []).getD c 0)))
theorem mTurn_len (rows : List (List Rat)) (p c : Nat) : (mTurn rows p c).length = rows.length := List.length_mapIdx
theorem rows_at {H : Hp} {xs : List V} {rows : List (List Rat)} {i : Nat} {x : V} (h : DpAll K H xs (rows.map fRow)) (e : xs[i]? = some x) : ∃ r, rows[i]? = some r ∧ Dp K H x (fRow r) := by
  obtain ⟨d, e1, e2⟩ := h.at e
  rw [List.getElem?_map] at e1
  cases e3 : rows[i]? with
  | none =>
    rw [e3] at e1
    cases e1
  | some q =>
    rw [e3] at e1
    cases e1
    exact ⟨q, rfl, e2⟩
theorem rows_get {H : Hp} {xs : List V} {rows : List (List Rat)} {i : Nat} {r : List Rat} (h : DpAll K H xs (rows.map fRow)) (e : rows[i]? = some r) : ∃ x, xs[i]? = some x ∧ Dp K H x (fRow r) := by
  obtain ⟨x, e1, e2⟩ := h.get (i := i) (d := fRow r) (by rw [List.getElem?_map, e]; rfl)
  exact ⟨x, e1, e2⟩
def spTurned (K : PySem.W.Frag) (C : Addr) : Sp := fun vs H Q _ => ∃ (X : List Addr) (v : V) (p c n : Nat) (rows : List (List Rat)) (basis : List Nat) (rp : List Rat) (piv : Rat), vs = [v, .int p, .int c] ∧ Xin X H ∧ FrameAt K C X H v rows basis ∧
  rows[p]? = some rp ∧ rp[c]? = some piv ∧ piv ≠ 0 ∧ (∀ r ∈ rows, r.length = n ∧ SzAll 400 r) ∧ n ≤ 1000 ∧ rows.length ≤ 1000 ∧ basis.length ≤ 1000 ∧ ∀ H' v', Same H H' → FrameAt K C X H' v' (mTurn rows p c) (basis.set p c) → Q v' H'
theorem c_turned {C : Addr} (D : MethAt K C "turned" "Frame.turned" sTurned ["self", "place", "column"]) (T : FrameC K C) (I : ICal P w K mg base 1 C "Frame" ["self", "rows", "basis"] (spFrInit C))
    (O : Cal P w K mg base 4 "over" ["one", "other"] (spOver K)) (L : Cal P w K mg base 4 "less" ["one", "other", "by"] (spLess K)) (me : mg "enumerate" = none) : MCal P w K mg base 5 C "turned" ["self", "place", "column"] (spTurned K C) := by
  refine D.cal fun f fd F => ?_
  refine F.ok scTurned (fun vs H Q E h => ?_) (fun cdv A outer s H vs Q E hr h => ?_)
  · obtain ⟨X, v, p, c, n, rows, basis, rp, piv, rfl, _⟩ := h
    rfl
  · obtain ⟨X, v, p, c, n, rows, basis, rp, piv, rfl, hX, ⟨a, dx, l, b, rfl, ha, hl, hb⟩, hrp, hpiv, np, hrow, hn, hm, hm2, q⟩ := h
    refine ⟨_, pss_cons (ps_set (i := 3) scTurned.nd rfl (.inr rfl) (pe_lc (own := [("part", 5)]) (g := gName 5) (tt := tYes) rfl scTurned.nd (pi_list (pe_ix (ix_lstK K) (pe_fldK K (pv 0)) (pv 1) (fun _ _ => rfl)))
        (blkOk_by (own := [("part", 5)]) (N := nTurned) (sc := defScope sTurned) (by decide +kernel)) (fun _ _ _ _ _ => pg_name (i := 5) scTurned.nd rfl (.inl rfl)) (fun _ _ _ _ _ => pts_nil)
        (fun _ _ _ _ _ => pe_cal O hr (pa_cons (pv 5) (pa_cons (pe_ix (ix_lstK K) (pe_ix (ix_lstK K) (pe_fldK K (pv 0)) (pv 1) (fun _ _ => rfl)) (pv 2) (fun _ _ => rfl)) pa_nil)))))
      (pss_cons (ps_setLc (i := 4) (own := [("index", 6), ("row", 7)]) (g := gTup K 2 (gCons (gName 6) (gCons (gName 7) gNil))) (tt := tYes) rfl scTurned.nd rfl rfl (sw_true rfl rfl rfl (by decide +kernel))
        (pi_enum (by rfl) me (pa_cons (pe_fldK K (pv 0)) pa_nil)) (blkOk_by (own := [("index", 6), ("row", 7)]) (N := nTurned) (sc := defScope sTurned) (by decide +kernel))
        (fun _ _ _ _ _ => pg_tup rfl (pgs_cons (pg_name (i := 6) scTurned.nd rfl (.inl rfl)) (pgs_cons (pg_name (i := 7) scTurned.nd rfl (.inl rfl)) pgs_nil))) (fun _ _ _ _ _ => pts_nil)
        (fun _ _ _ _ _ => pe_ifExp (pt_cmpR op_eq (pv 6) (pv 1) (nomark _)) (pv 3) (pe_cal L hr (pa_cons (pv 7) (pa_cons (pv 3) (pa_cons (pe_ix (ix_lstK K) (pv 7) (pv 2) (fun _ _ => rfl)) pa_nil))))))
      (pss_one (ps_ret (pe_new I hr (pa_cons (pv 4) (pa_cons (pe_lc (own := [("index", 6), ("each", 8)]) (g := gTup K 2 (gCons (gName 6) (gCons (gName 8) gNil))) (tt := tYes) rfl scTurned.nd
        (pi_enum (by rfl) me (pa_cons (pe_fldK K (pv 0)) pa_nil)) (blkOk_by (own := [("index", 6), ("each", 8)]) (N := nTurned) (sc := defScope sTurned) (by decide +kernel))
        (fun _ _ _ _ _ => pg_tup rfl (pgs_cons (pg_name (i := 6) scTurned.nd rfl (.inl rfl)) (pgs_cons (pg_name (i := 8) scTurned.nd rfl (.inl rfl)) pgs_nil))) (fun _ _ _ _ _ => pts_nil)
        (fun _ _ _ _ _ => pe_ifExp (pt_cmpR op_eq (pv 6) (pv 1) (nomark _)) (pv 2) (pv 8))) pa_nil)))))), ?_⟩
    obtain ⟨al, ls, rfl, hsl, hdl⟩ := hl.list
    obtain ⟨ab, bs, rfl, hsb, hdb⟩ := hb.list
    obtain ⟨vr, evr, hvr⟩ := rows_get hdl hrp
    obtain ⟨ar, rs, rfl, hsr, hdr⟩ := hvr.list
    obtain ⟨vp, evp, hvp⟩ := frs_get hdr hpiv
    have hr1 := hrow rp (List.mem_of_getElem? hrp)
    have hp : p < rows.length := (List.getElem?_eq_some_iff.mp hrp).1
    have zpiv : Sz 400 piv := hr1.2 piv (List.mem_of_getElem? hpiv)
    have lrs : rs.length = n := by rw [hdr.length, frs_len, hr1.1]
    have lls : ls.length = rows.length := by rw [hdl.length, List.length_map]
    have lbs : bs.length = basis.length := by rw [hdb.length, List.length_map]
    have lown : (mOwn rp piv).length = n := by
      unfold mOwn
      rw [List.length_map, hr1.1]
    -- own
    refine ⟨_, rfl, a, C, dx, _, _, rfl, ha, T.cl, T.nL, rfl, _, rfl, al, ls, _, _, rfl, rfl, cut_same.seq hsl, atI_nat evr, ar, rfl, ⟨_, cut_same.seq hsr⟩, fun D hD => ?_⟩
    refine lc_map (K := K) walk_list X (frs (mOwn rp piv)) hX hD (by rw [frs_len]; omega) (by omega) (fun H2 s2 => s2.seq (cut_same.seq hsr)) ?_ fun H2 s2 ho => ?_
    · rintro i x H2 H3 d Q2 hd s2 sc hX2 ⟨rfl, ex⟩ k
      obtain ⟨q1, eq1, hq1⟩ := frs_at hdr ex
      have e : d = fr (q1 / piv) := by
        have z : (frs (mOwn rp piv))[i]? = some (fr (q1 / piv)) := by
          unfold frs mOwn
          rw [List.getElem?_map, List.getElem?_map, eq1]
          rfl
        rw [hd] at z
        exact Option.some.inj z
      subst e
      have sA : Same (cutH X H) H3 := cut_same.trans s2
      refine ⟨rfl, ?_⟩
      refine ⟨_, rfl, _, rfl, a, C, dx, _, _, rfl, s2 _ _ ha, T.cl, T.nL, rfl, _, rfl, al, ls, _, _, rfl, rfl, sA.seq hsl, atI_nat evr, _, rfl, ar, rs, _, _, rfl, rfl, sA.seq hsr, atI_nat evp,
        _, _, q1, piv, rfl, hq1.same sA, hvp.same sA, (hr1.2 q1 (List.mem_of_getElem? eq1)).mono (by decide), zpiv.mono (by decide), np, fun H4 v4 s4 hv4 => ?_⟩
      exact k _ _ s4 (hv4.cut (hX2.same s4)).dp
    · -- rows
      have sA : Same (cutH X H) H2 := cut_same.trans s2
      refine ⟨_, rfl, a, C, dx, _, _, rfl, s2 _ _ ha, T.cl, T.nL, rfl, al, ls, rfl, sA.seq hsl, fun D2 hD2 => ?_⟩
      have szown : SzAll 900 (mOwn rp piv) := fun q hq => by
        obtain ⟨r0, hr0, rfl⟩ := List.mem_map.mp hq
        rw [Rat.div_def]
        exact (sz_times (hr1.2 r0 hr0) (sz_inv zpiv fun z => np (Rat.num_eq_zero.mp z))).mono (by decide)
      refine lc_map (K := K) walk_enum X ((mTurn rows p c).map fRow) (hX.same s2) hD2 (by rw [List.length_map, mTurn_len]; omega) (by omega) (fun H3 s3 => s3.seq (sA.seq hsl)) ?_ fun H3 s3 ho3 => ?_
      · rintro i v H3 H4 d Q2 hd s3 sc hX2 ⟨T2, x, y, rfl, nT, rfl, ex, ey⟩ k
        obtain rfl : V.int i = x := Option.some.inj ex
        obtain ⟨row, er, hrw⟩ := rows_at hdl ey
        have hr2 := hrow row (List.mem_of_getElem? er)
        have e : d = fRow (mRow p c (mOwn rp piv) i row) := by
          have z : ((mTurn rows p c).map fRow)[i]? = some (fRow (mRow p c (mOwn rp piv) i row)) := by
            unfold mTurn
            rw [List.getElem?_map, List.getElem?_mapIdx, er, List.getD_eq_getElem?_getD, hrp]
            simp only [Option.getD_some, Option.map_some]
            rw [List.getD_eq_getElem?_getD, hpiv]
            rfl
          rw [hd] at z
          exact Option.some.inj z
        subst e
        have s4 : Same H3 (upd H3 T2 (.tup [.int i, y])) := Same.new nT
        have sc4 := sc.trans (same_cut (X := D2 :: X) s4)
        refine g_pair ⟨rfl, ?_⟩
        refine ⟨_, rfl, _, rfl, rfl, _, rfl, ite2 (fun e => ?_) (fun e => ?_)⟩
        · have e1 : i = p := by
            have := V.int.inj (of_decide_eq_true e)
            omega
          refine ⟨_, rfl, k _ _ s4 ?_⟩
          rw [mRow, if_pos e1]
          exact ho.same sc4
        · have e1 : ¬ i = p := fun z => e (by rw [z]; exact decide_eq_true rfl)
          obtain ⟨aw, ws, rfl, hsw, hdw⟩ := hrw.list
          have hc : c < row.length := by
            rw [hr2.1, ← hr1.1]
            exact (List.getElem?_eq_some_iff.mp hpiv).1
          obtain ⟨vb, evb, hvb⟩ := frs_get hdw (List.getElem?_eq_getElem hc)
          have sB : Same (cutH X H) (upd H3 T2 (.tup [.int i, .ref aw])) := sA.trans (s3.trans s4)
          have sC : Same (cutH X H) (cutH (D2 :: X) (upd H3 T2 (.tup [.int i, .ref aw]))) := (same_cut s2).trans sc4
          refine ⟨_, rfl, _, rfl, _, rfl, _, rfl, aw, ws, _, _, rfl, rfl, sB.seq hsw, atI_nat evb, D2 :: X, _, _, _, row, mOwn rp piv, row[c], rfl, hX2.same s4, hrw.same sC, ho.same sc4, hvb.same sB,
            by omega, by omega, fun q hq => (hr2.2 q hq).mono (by decide), szown, (hr2.2 _ (List.getElem_mem hc)).mono (by decide), fun H5 v5 s5 hv5 => ?_⟩
          refine k _ _ (s4.trans s5) ?_
          rw [mRow, if_neg e1, List.getD_eq_getElem?_getD, List.getElem?_eq_getElem hc]
          exact hv5
      · -- the new frame
        have sB : Same H H3 := s2.trans s3
        have sC : Same (cutH X H) H3 := cut_same.trans sB
        refine ⟨_, rfl, _, rfl, a, C, dx, _, _, rfl, sB _ _ ha, T.cl, T.nB, rfl, ab, bs, rfl, sC.seq hsb, fun D3 hD3 => ?_⟩
        refine lc_map (K := K) walk_enum X ((basis.set p c).map nat) (hX.same sB) hD3 (by rw [List.length_map, List.length_set]; omega) (by omega) (fun H4 s4 => s4.seq (sC.seq hsb)) ?_ fun H4 s4 ho4 => ?_
        · rintro i v H4 H5 d Q2 hd s4 sc hX2 ⟨T2, x, y, rfl, nT, rfl, ex, ey⟩ k
          obtain rfl : V.int i = x := Option.some.inj ex
          have s5 : Same H4 (upd H4 T2 (.tup [.int i, y])) := Same.new nT
          rw [List.getElem?_map, List.getElem?_set] at hd
          refine g_pair ⟨rfl, ?_⟩
          refine ⟨_, rfl, _, rfl, rfl, _, rfl, ite2 (fun e => ?_) (fun e => ?_)⟩
          · have e1 : p = i := by
              have := V.int.inj (of_decide_eq_true e)
              omega
            rw [if_pos e1] at hd
            split at hd
            · cases hd
              exact ⟨_, rfl, k _ _ s5 (.int _)⟩
            · cases hd
          · have e1 : ¬ p = i := fun z => e (by rw [z]; exact decide_eq_true rfl)
            rw [if_neg e1] at hd
            obtain ⟨d2, ed2, hd2⟩ := hdb.at ey
            rw [List.getElem?_map] at ed2
            rw [ed2] at hd
            cases hd
            refine ⟨_, rfl, k _ _ s5 ?_⟩
            exact hd2.same (((same_cut sB).trans sc).trans (same_cut s5))
        · intro x dx2 nx ndx ne
          refine ⟨x, dx2, _, _, rfl, upd_same, fun H5 e5 kp => ⟨rfl, ?_⟩⟩
          obtain ⟨s5, h5⟩ := fr_made (X := X) nx ndx e5 kp (ho3.same (same_cut s4)) ho4
          exact q _ _ (sB.trans (s4.trans s5)) h5
end
end Cs
set_option Elab.async false
set_option linter.all false
set_option maxRecDepth 100000
set_option maxHeartbeats 4000000
/-! Frame.prices, Frame.leaving -/
namespace Cs
open PySem PySem.Spec PyProof.Rows L2
abbrev sPrices : Stmt := inClass (topS 45) 2
abbrev sLeaving : Stmt := inClass (topS 45) 3
abbrev nPrices : List Str := ["self", "costs", "found", "row", "column"]
abbrev nLeaving : List Str := ["self", "column", "best", "found", "place", "row", "ratio"]
theorem scPrices : FnScope nPrices ["self", "costs"] (defScope sPrices) := ⟨rfl, rfl, rfl, by decide +kernel, rfl, by decide +kernel, by decide +kernel⟩
theorem scLeaving : FnScope nLeaving ["self", "column"] (defScope sLeaving) := ⟨rfl, rfl, rfl, by decide +kernel, rfl, by decide +kernel, by decide +kernel⟩
def mPStep (found : List Rat) (rc : List Rat × Nat) : List Rat := if found.getD rc.2 0 = 0 then found else mLess found rc.1 (found.getD rc.2 0)
def mPk (costs : List Rat) (rows : List (List Rat)) (basis : List Nat) (k : Nat) : List Rat := ((rows.zip basis).take k).foldl mPStep costs
/-- the prices -/
def mPrices (costs : List Rat) (rows : List (List Rat)) (basis : List Nat) : List Rat := (rows.zip basis).foldl mPStep costs
theorem mPk_succ {costs : List Rat} {rows : List (List Rat)} {basis : List Nat} {k : Nat} {r : List Rat} {b : Nat} (h1 : rows[k]? = some r) (h2 : basis[k]? = some b) :
    mPk costs rows basis (k + 1) = mPStep (mPk costs rows basis k) (r, b) := by
  have e : (rows.zip basis)[k]? = some (r, b) := by
    rw [List.getElem?_zip_eq_some]
    exact ⟨h1, h2⟩
  unfold mPk
  rw [List.take_add_one, e]
  simp [List.foldl_append]
theorem mPStep_len {found : List Rat} {rc : List Rat × Nat} (h : rc.1.length = found.length) : (mPStep found rc).length = found.length := by
  unfold mPStep
  split
  · rfl
  · unfold mLess
    rw [List.length_zipWith]
    omega
section
variable {P : Program} {w : World} {K : PySem.W.Frag} {mg : Str → Option Value} {base : Heap}
theorem nats_at {H : Hp} {xs : List V} {ns : List Nat} {i : Nat} {x : V} (h : DpAll K H xs (ns.map nat)) (e : xs[i]? = some x) : ∃ n : Nat, ns[i]? = some n ∧ x = .int n := by
  obtain ⟨d, e1, e2⟩ := h.at e
  rw [List.getElem?_map] at e1
  cases e3 : ns[i]? with
  | none =>
    rw [e3] at e1
    cases e1
  | some q =>
    rw [e3] at e1
    cases e1
    exact ⟨q, rfl, e2.int_eq⟩
theorem nats_get {H : Hp} {xs : List V} {ns : List Nat} {i n : Nat} (h : DpAll K H xs (ns.map nat)) (e : ns[i]? = some n) : xs[i]? = some (.int n) := by
  obtain ⟨x, e1, e2⟩ := h.get (i := i) (d := nat n) (by rw [List.getElem?_map, e]; rfl)
  rw [e1, e2.int_eq]
def spPrices (K : PySem.W.Frag) (C : Addr) : Sp := fun vs H Q _ => ∃ (X : List Addr) (v vc : V) (n : Nat) (rows : List (List Rat)) (basis : List Nat) (costs : List Rat), vs = [v, vc] ∧ Xin X H ∧ FrameAt K C X H v rows basis ∧ Dp K (cutH X H) vc (fRow costs) ∧
  rows.length = basis.length ∧ (∀ r ∈ rows, r.length = n ∧ SzAll 400 r) ∧ (∀ b ∈ basis, b < n) ∧ costs.length = n ∧ n ≤ 1000 ∧ (∀ k, k ≤ rows.length → SzAll 400 (mPk costs rows basis k)) ∧
  ∀ H' v', Same H H' → Dp K (cutH X H') v' (fRow (mPrices costs rows basis)) → Q v' H'
theorem c_prices {C : Addr} (D : MethAt K C "prices" "Frame.prices" sPrices ["self", "costs"]) (T : FrameC K C) (L : Cal P w K mg base 4 "less" ["one", "other", "by"] (spLess K)) (mz : mg "zip" = none) (ml : mg "list" = none) (Z : Cst K mg "ZERO" 0) :
    MCal P w K mg base 5 C "prices" ["self", "costs"] (spPrices K C) := by
  refine D.cal fun f fd F => ?_
  refine F.ok scPrices (fun vs H Q E h => ?_) (fun cdv A outer s H vs Q E hr h => ?_)
  · obtain ⟨X, v, vc, n, rows, basis, costs, rfl, _⟩ := h
    rfl
  · obtain ⟨X, v, vc, n, rows, basis, costs, rfl, hX, ⟨a, dx, l, b, rfl, ha, hl, hb⟩, hc, hlen, hrow, hbas, hcl, hn, hsz, q⟩ := h
    refine ⟨_, pss_cons (ps_set (i := 2) scPrices.nd rfl (.inl rfl) (pe_callTy call_list_of (by rfl) ml (by decide +kernel) (pa_cons (pv 1) pa_nil)))
      (pss_cons (ps_for PassesOwn.never rfl (pi_zip (by rfl) mz (pa_cons (pe_fldK K (pv 0)) (pa_cons (pe_fldK K (pv 0)) pa_nil))) (pg_tup rfl (pgs_cons (pg_name (i := 3) scPrices.nd rfl (.inl rfl)) (pgs_cons (pg_name (i := 4) scPrices.nd rfl (.inl rfl)) pgs_nil)))
        (pss_one (ps_if (pt_cmpR (op_neK K hr.units) (pe_ix (ix_lstK K) (pv 2) (pv 4) (fun _ _ => rfl)) (pe_cst Z) (nomark _))
          (pss_one (ps_set (i := 2) scPrices.nd rfl (.inl rfl) (pe_cal L hr (pa_cons (pv 2) (pa_cons (pv 3) (pa_cons (pe_ix (ix_lstK K) (pv 2) (pv 4) (fun _ _ => rfl)) pa_nil)))))) pss_nil)))
      (pss_one (ps_ret (pv 2)))), ?_⟩
    obtain ⟨al, ls, rfl, hsl, hdl⟩ := hl.list
    obtain ⟨ab, bs, rfl, hsb, hdb⟩ := hb.list
    obtain ⟨ac, cs, rfl, hsc, hdc⟩ := hc.list
    have lls : ls.length = rows.length := by rw [hdl.length, List.length_map]
    have lbs : bs.length = basis.length := by rw [hdb.length, List.length_map]
    refine ⟨_, rfl, ac, cs, rfl, .inl (cut_same.seq hsc), fun p hp => ?_⟩
    have s0 : Same H (upd H p (.lst cs)) := Same.new hp
    refine ⟨_, rfl, a, C, dx, _, _, rfl, s0 _ _ ha, T.cl, T.nL, rfl, _, rfl, a, C, dx, _, _, rfl, s0 _ _ ha, T.cl, T.nB, rfl, al, ab, ls, bs, rfl, s0.seq (cut_same.seq hsl), s0.seq (cut_same.seq hsb), ?_⟩
    refine for_it (walk_zip (n := rows.length) (by omega)) (fun i σ H2 => ∃ vf f3 f4, σ = [some (.ref a), some (.ref ac), some vf, f3, f4] ∧ Same H H2 ∧ Dp K (cutH X H2) vf (fRow (mPk costs rows basis i)) ∧ (mPk costs rows basis i).length = n)
      ⟨_, none, none, rfl, s0, .lst (.inl (.inl (cut_upd (hX.new hp)))) (hdc.same (same_cut s0)), hcl⟩ (fun i σ H2 _ ⟨_, _, _, _, s2, _⟩ => ⟨s2.seq (cut_same.seq hsl), s2.seq (cut_same.seq hsb)⟩) ?_ ?_
    · rintro i v σ H2 H3 hi ⟨vf, f3, f4, rfl, s2, hf, hfl⟩ ⟨T2, x, y, rfl, nT, rfl, ex, ey⟩
      obtain ⟨row, er, hrw⟩ := rows_at hdl ex
      obtain ⟨col, eb, rfl⟩ := nats_at hdb ey
      have hr2 := hrow row (List.mem_of_getElem? er)
      have hcol : col < n := hbas col (List.mem_of_getElem? eb)
      have s3 : Same H2 (upd H2 T2 (.tup [x, .int col])) := Same.new nT
      obtain ⟨af, fs, rfl, hsf, hdf⟩ := hf.list
      have hc1 : col < (mPk costs rows basis i).length := by omega
      obtain ⟨vq, evq, hvq⟩ := frs_get hdf (List.getElem?_eq_getElem hc1)
      have sz := hsz i (by omega)
      have e0 : (mPk costs rows basis i).getD col 0 = (mPk costs rows basis i)[col] := by rw [List.getD_eq_getElem?_getD, List.getElem?_eq_getElem hc1]; rfl
      have es := mPk_succ (costs := costs) er eb
      have el := mPStep_len (found := mPk costs rows basis i) (rc := (row, col)) (by show row.length = _; omega)
      rw [← es] at el
      refine g_pair ?_
      have sB : Same (cutH X H2) (upd H2 T2 (.tup [x, .int col])) := cut_same.trans s3
      have sC : Same (cutH X H) (upd H2 T2 (.tup [x, .int col])) := cut_same.trans (s2.trans s3)
      refine ⟨_, rfl, _, rfl, af, fs, _, _, rfl, rfl, sB.seq hsf, atI_nat evq, fun vz hvz => ⟨_, fr 0, (hvq.same sB).dp, hvz.dp, rfl, rfl, _, rfl, ?_⟩⟩
      rw [fr_eqv]
      by_cases h0 : (mPk costs rows basis i)[col] = 0
      · rw [decide_eq_true h0]
        refine iteF ⟨_, _, _, rfl, s2.trans s3, ?_, by omega⟩
        rw [es, mPStep, if_pos (by rw [e0]; exact h0)]
        exact hf.same (same_cut s3)
      · rw [decide_eq_false h0]
        refine iteT ⟨_, rfl, _, rfl, _, rfl, _, rfl, af, fs, _, _, rfl, rfl, sB.seq hsf, atI_nat evq, X, _, _, _, mPk costs rows basis i, row, (mPk costs rows basis i)[col], rfl, hX.same (s2.trans s3), hf.same (same_cut s3), hrw.same (same_cut (s2.trans s3)), hvq.same sB,
          by omega, by omega, fun q hq => (sz q hq).mono (by decide), fun q hq => (hr2.2 q hq).mono (by decide), (sz _ (List.getElem_mem hc1)).mono (by decide), fun H4 v4 s4 hv4 => ?_⟩
        refine ⟨_, _, _, rfl, s2.trans (s3.trans s4), ?_, by omega⟩
        rw [es, mPStep, if_neg (by rw [e0]; exact h0), e0]
        exact hv4
    · rintro σ H2 ⟨vf, f3, f4, rfl, s2, hf, hfl⟩
      refine ⟨_, rfl, q _ _ s2 ?_⟩
      have e : mPk costs rows basis rows.length = mPrices costs rows basis := by
        unfold mPk mPrices
        rw [List.take_of_length_le (by rw [List.length_zip]; omega)]
      rw [← e]
      exact hf
theorem num_pos {q : Rat} : 0 < q.num ↔ 0 < q := by
  rw [Rat.lt_iff]
  simp
theorem num_neg {q : Rat} : q.num < 0 ↔ q < 0 := by
  rw [Rat.lt_iff]
  simp
/-- the row that bounds column c most, among the first i -/
def mLvStep (rows : List (List Rat)) (basis : List Nat) (c : Nat) (acc : Option (Rat × Nat)) (i : Nat) : Option (Rat × Nat) :=
  let row := rows.getD i []
  let e := row.getD c 0
  if 0 < e then
    let ratio := row.getD 0 0 / e
    match acc with
    | none => some (ratio, i)
    | some (best, found) => if ratio < best ∨ (ratio = best ∧ basis.getD i 0 < basis.getD found 0) then some (ratio, i) else acc
  else acc
def mLvK (rows : List (List Rat)) (basis : List Nat) (c k : Nat) : Option (Rat × Nat) := (List.range k).foldl (mLvStep rows basis c) none
def mLeaving (rows : List (List Rat)) (basis : List Nat) (c : Nat) : Option Nat := (mLvK rows basis c rows.length).map (·.2)
theorem mLvK_succ (rows : List (List Rat)) (basis : List Nat) (c k : Nat) : mLvK rows basis c (k + 1) = mLvStep rows basis c (mLvK rows basis c k) k := by
  unfold mLvK
  rw [List.range_succ, List.foldl_append]
  rfl
theorem mLvK_lt {rows : List (List Rat)} {basis : List Nat} {c : Nat} : ∀ {k : Nat} {r : Rat} {i : Nat}, mLvK rows basis c k = some (r, i) → i < k
  | 0, r, i, h => by
    simp [mLvK] at h
  | k + 1, r, i, h => by
    rw [mLvK_succ] at h
    unfold mLvStep at h
    simp only at h
    split at h
    · split at h
      · cases h
        exact Nat.lt_succ_self _
      · rename_i b f e
        split at h
        · cases h
          exact Nat.lt_succ_self _
        · rw [h] at e
          exact Nat.lt_succ_of_lt (mLvK_lt h)
    · exact Nat.lt_succ_of_lt (mLvK_lt h)
/-- what best and found hold -/
def LvAt (K : PySem.W.Frag) (H : Hp) (vb vf : V) : Option (Rat × Nat) → Prop
  | none => vb = .non ∧ vf = .non
  | some (r, i) => Fr K H vb r ∧ Sz 900 r ∧ vf = .int i
def vOpt : Option Nat → V
  | none => .non
  | some n => .int n
def spLeaving (K : PySem.W.Frag) (C : Addr) : Sp := fun vs H Q _ => ∃ (X : List Addr) (v : V) (n c : Nat) (rows : List (List Rat)) (basis : List Nat), vs = [v, .int c] ∧ Xin X H ∧ FrameAt K C X H v rows basis ∧
  rows.length = basis.length ∧ (∀ r ∈ rows, r.length = n ∧ SzAll 400 r) ∧ c < n ∧ rows.length ≤ 1000 ∧ ∀ H', Same H H' → Q (vOpt (mLeaving rows basis c)) H'
theorem c_leaving {C : Addr} (D : MethAt K C "leaving" "Frame.leaving" sLeaving ["self", "column"]) (T : FrameC K C) (O : Cal P w K mg base 4 "over" ["one", "other"] (spOver K)) (A' : Cal P w K mg base 1 "is_above" ["one", "other"] (spAbove K))
    (me : mg "enumerate" = none) : MCal P w K mg base 5 C "leaving" ["self", "column"] (spLeaving K C) := by
  refine D.cal fun f fd F => ?_
  refine F.ok scLeaving (fun vs H Q E h => ?_) (fun cdv A outer s H vs Q E hr h => ?_)
  · obtain ⟨X, v, n, c, rows, basis, rfl, _⟩ := h
    rfl
  · obtain ⟨X, v, n, c, rows, basis, rfl, hX, ⟨a, dx, l, b, rfl, ha, hl, hb⟩, hlen, hrow, hcn, hm, q⟩ := h
    refine ⟨_, pss_cons (ps_asg (pe_tup (pa_cons pe_non (pa_cons pe_non pa_nil))) (pg_tup rfl (pgs_cons (pg_name (i := 2) scLeaving.nd rfl (.inl rfl)) (pgs_cons (pg_name (i := 3) scLeaving.nd rfl (.inl rfl)) pgs_nil))))
      (pss_cons (ps_for PassesOwn.never rfl (pi_enum (by rfl) me (pa_cons (pe_fldK K (pv 0)) pa_nil)) (pg_tup rfl (pgs_cons (pg_name (i := 4) scLeaving.nd rfl (.inl rfl)) (pgs_cons (pg_name (i := 5) scLeaving.nd rfl (.inl rfl)) pgs_nil)))
        (pss_one (ps_if (pt_cmpR op_gt (pe_ix (ix_numK K) (pe_ix (ix_lstK K) (pv 5) (pv 1) (fun _ _ => rfl)) pe_int (fun _ _ => rfl)) pe_int (nomark _))
          (pss_cons (ps_set (i := 6) scLeaving.nd rfl (.inl rfl) (pe_cal O hr (pa_cons (pe_ix (ix_lstK K) (pv 5) pe_int (fun _ _ => rfl)) (pa_cons (pe_ix (ix_lstK K) (pv 5) (pv 1) (fun _ _ => rfl)) pa_nil))))
          (pss_one (ps_if (PW.pt (pw_or (pt_cmpR op_isN (pv 2) pe_non (nomark _)) (pw_or (pt_val (pe_cal A' hr (pa_cons (pv 2) (pa_cons (pv 6) pa_nil)))) (pw_or1 (PW.pt (pw_and (pt_cmpR (op_eqK K hr.units) (pv 6) (pv 2) (nomark _))
              (pw_and1 (pt_cmpR op_lt (pe_ix (ix_lstK K) (pe_fldK K (pv 0)) (pv 4) (fun _ _ => rfl)) (pe_ix (ix_lstK K) (pe_fldK K (pv 0)) (pv 3) (fun _ _ => rfl)) (nomark _)))))))))
            (pss_one (ps_par (i := 2) (j := 3) rfl scLeaving.nd rfl rfl (by decide) rfl rfl (pa_cons (pv 6) (pa_cons (pv 4) pa_nil)) (by rfl))) pss_nil))) pss_nil)))
      (pss_one (ps_ret (pv 3)))), ?_⟩
    obtain ⟨al, ls, rfl, hsl, hdl⟩ := hl.list
    obtain ⟨ab, bs, rfl, hsb, hdb⟩ := hb.list
    have lls : ls.length = rows.length := by rw [hdl.length, List.length_map]
    refine ⟨(by show 2 ≤ sizeLine; decide), fun p0 hp0 => g_pair ?_⟩
    have s00 : Same H (upd H p0 (.tup [V.non, V.non])) := Same.new hp0
    refine ⟨_, rfl, a, C, dx, _, _, rfl, s00 _ _ ha, T.cl, T.nL, rfl, al, ls, rfl, s00.seq (cut_same.seq hsl), ?_⟩
    refine for_it walk_enum (fun i σ H2 => ∃ vb vf f4 f5 f6, σ = [some (.ref a), some (.int c), some vb, some vf, f4, f5, f6] ∧ Same H H2 ∧ LvAt K H2 vb vf (mLvK rows basis c i))
      ⟨_, _, none, none, none, rfl, s00, rfl, rfl⟩ (fun i σ H2 _ ⟨_, _, _, _, _, _, s2, _⟩ => s2.seq (cut_same.seq hsl)) ?_ ?_
    · rintro i v σ H2 H3 hi ⟨vb, vf, f4, f5, f6, rfl, s2, hL⟩ ⟨T2, x, y, rfl, nT, rfl, ex, ey⟩
      obtain rfl : V.int i = x := Option.some.inj ex
      obtain ⟨row, er, hrw⟩ := rows_at hdl ey
      have hr2 := hrow row (List.mem_of_getElem? er)
      have s3 : Same H2 (upd H2 T2 (.tup [.int i, y])) := Same.new nT
      obtain ⟨aw, ws, rfl, hsw, hdw⟩ := hrw.list
      have hc1 : c < row.length := by omega
      have h01 : 0 < row.length := by omega
      obtain ⟨vq, evq, hvq⟩ := frs_get hdw (List.getElem?_eq_getElem hc1)
      obtain ⟨v0, ev0, hv0⟩ := frs_get hdw (List.getElem?_eq_getElem h01)
      have sA : Same H (upd H2 T2 (.tup [.int i, .ref aw])) := s2.trans s3
      have sC : Same (cutH X H) (upd H2 T2 (.tup [.int i, .ref aw])) := cut_same.trans sA
      have e1 : rows.getD i [] = row := by rw [List.getD_eq_getElem?_getD, er]; rfl
      have e2 : row.getD c 0 = row[c] := by rw [List.getD_eq_getElem?_getD, List.getElem?_eq_getElem hc1]; rfl
      have e3 : row.getD 0 0 = row[0] := by rw [List.getD_eq_getElem?_getD, List.getElem?_eq_getElem h01]; rfl
      refine g_pair ?_
      refine ⟨_, rfl, _, rfl, aw, ws, _, _, rfl, rfl, sC.seq hsw, atI_nat evq, row[c], hvq.same sC, rfl, _, _, rfl, rfl, _, rfl, ite2 (fun e => ?_) (fun e => ?_)⟩
      · have hpos : 0 < row[c] := num_pos.mp (of_decide_eq_true e)
        have zc : Sz 400 row[c] := hr2.2 _ (List.getElem_mem hc1)
        have nz : row[c].num ≠ 0 := fun z => by
          rw [Rat.num_eq_zero.mp z] at hpos
          exact absurd hpos (by decide)
        have z6 : Sz 900 (row[0] / row[c]) := by
          rw [Rat.div_def]
          exact (sz_times (hr2.2 _ (List.getElem_mem h01)) (sz_inv zc nz)).mono (by decide)
        refine ⟨_, rfl, aw, ws, _, _, rfl, rfl, sC.seq hsw, atI_nat (j := 0) ev0, _, rfl, _, rfl, aw, ws, _, _, rfl, rfl, sC.seq hsw, atI_nat evq, _, _, row[0], row[c], rfl, hv0.same sC, hvq.same sC,
          (hr2.2 _ (List.getElem_mem h01)).mono (by decide), zc.mono (by decide), fun z => nz (by rw [z]; rfl), fun H4 v4 s4 hv4 => ?_⟩
        have sD := sA.trans s4
        have stepE : mLvK rows basis c (i + 1) = match mLvK rows basis c i with
            | none => some (row[0] / row[c], i)
            | some (best, found) => if row[0] / row[c] < best ∨ (row[0] / row[c] = best ∧ basis.getD i 0 < basis.getD found 0) then some (row[0] / row[c], i) else mLvK rows basis c i := by
          rw [mLvK_succ, mLvStep]
          simp only [e1, e2, e3, if_pos hpos]
        have take : LvAt K H4 v4 (.int i) (some (row[0] / row[c], i)) := ⟨hv4, z6, rfl⟩
        cases hk : mLvK rows basis c i with
        | none =>
          rw [hk] at hL stepE
          obtain ⟨rfl, rfl⟩ := hL
          refine ⟨_, rfl, rfl, true, rfl, iteT (iteT ⟨_, rfl, _, rfl, _, _, rfl, _, _, _, _, _, rfl, sD, ?_⟩)⟩
          rw [stepE]
          exact take
        | some bf =>
          obtain ⟨best, found⟩ := bf
          rw [hk] at hL stepE
          obtain ⟨hb1, zb1, rfl⟩ := hL
          have hb4 := hb1.same (s3.trans s4)
          have nn : vb ≠ .non := by
            obtain ⟨ax, e, _⟩ := hb1
            rw [e]
            intro z
            cases z
          have hfi : found < rows.length := by
            have := mLvK_lt hk
            omega
          have stay : LvAt K H4 vb (.int found) (some (best, found)) := ⟨hb4, zb1, rfl⟩
          refine ⟨_, rfl, rfl, false, by rw [decide_eq_false nn], iteF ⟨_, rfl, _, rfl, _, _, best, row[0] / row[c], rfl, hb4, hv4, zb1.mono (by decide), z6.mono (by decide), _, rfl, ?_⟩⟩
          by_cases h1 : row[0] / row[c] < best
          · rw [decide_eq_true h1]
            refine iteT (iteT ⟨_, rfl, _, rfl, _, _, rfl, _, _, _, _, _, rfl, sD, ?_⟩)
            rw [stepE]
            simp only [if_pos (Or.inl h1)]
            exact take
          · rw [decide_eq_false h1]
            refine iteF ⟨_, rfl, _, rfl, fr (row[0] / row[c]), fr best, hv4.dp, hb4.dp, rfl, rfl, _, rfl, ?_⟩
            rw [fr_eqv]
            by_cases h2 : row[0] / row[c] = best
            · rw [decide_eq_true h2]
              have b1 : i < basis.length := by omega
              have b2 : found < basis.length := by omega
              have g1 : basis.getD i 0 = basis[i] := by rw [List.getD_eq_getElem?_getD, List.getElem?_eq_getElem b1]; rfl
              have g2 : basis.getD found 0 = basis[found] := by rw [List.getD_eq_getElem?_getD, List.getElem?_eq_getElem b2]; rfl
              have sE : Same (cutH X H) H4 := sC.trans s4
              refine iteT ⟨_, rfl, a, C, dx, _, _, rfl, sD _ _ ha, T.cl, T.nB, rfl, _, rfl, ab, bs, _, _, rfl, rfl, sE.seq hsb, atI_nat (nats_get hdb (List.getElem?_eq_getElem b1)),
                _, rfl, a, C, dx, _, _, rfl, sD _ _ ha, T.cl, T.nB, rfl, _, rfl, ab, bs, _, _, rfl, rfl, sE.seq hsb, atI_nat (nats_get hdb (List.getElem?_eq_getElem b2)), _, _, rfl, rfl, _, rfl, ite2 (fun e => ?_) (fun e => ?_)⟩
              · have h3 : basis[i] < basis[found] := by
                  have := of_decide_eq_true e
                  omega
                refine ⟨_, rfl, _, rfl, _, _, rfl, _, _, _, _, _, rfl, sD, ?_⟩
                rw [stepE]
                simp only [g1, g2, if_pos (show row[0] / row[c] < best ∨ (row[0] / row[c] = best ∧ basis[i] < basis[found]) from Or.inr ⟨h2, h3⟩)]
                exact take
              · have h3 : ¬ basis[i] < basis[found] := fun z => e (decide_eq_true (by omega))
                refine ⟨_, _, _, _, _, rfl, sD, ?_⟩
                rw [stepE]
                simp only [g1, g2, if_neg (show ¬ (row[0] / row[c] < best ∨ (row[0] / row[c] = best ∧ basis[i] < basis[found])) from fun z => z.elim h1 fun w => h3 w.2)]
                exact stay
            · rw [decide_eq_false h2]
              refine iteF (iteF ⟨_, _, _, _, _, rfl, sD, ?_⟩)
              rw [stepE]
              simp only [if_neg (show ¬ (row[0] / row[c] < best ∨ (row[0] / row[c] = best ∧ basis.getD i 0 < basis.getD found 0)) from fun z => z.elim h1 fun w => h2 w.1)]
              exact stay
      · have hneg : ¬ 0 < row[c] := fun z => e (decide_eq_true (num_pos.mpr z))
        refine ⟨_, _, _, _, _, rfl, sA, ?_⟩
        rw [mLvK_succ, mLvStep]
        simp only [e1, e2, if_neg hneg]
        cases hk : mLvK rows basis c i with
        | none =>
          rw [hk] at hL
          exact hL
        | some bf =>
          rw [hk] at hL
          exact ⟨hL.1.same s3, hL.2⟩
    · rintro σ H2 ⟨vb, vf, f4, f5, f6, rfl, s2, hL⟩
      rw [lls] at hL
      have e : vf = vOpt (mLeaving rows basis c) := by
        unfold mLeaving
        cases hk : mLvK rows basis c rows.length with
        | none =>
          rw [hk] at hL
          exact hL.2
        | some bf =>
          rw [hk] at hL
          exact hL.2.2
      subst e
      exact ⟨_, rfl, q _ s2⟩
end
end Cs
set_option Elab.async false
set_option linter.all false
set_option maxRecDepth 100000
set_option maxHeartbeats 4000000
/-! settled -/
namespace Cs
open PySem PySem.Spec PyProof.Rows L2
/-! ### a comprehension that picks ints -/
section
variable {J : It} {n : Nat} {G : Hp → Prop} {Y : Nat → Hp → V → Hp → Prop} {K : PySem.W.Frag}
def vNat (n : Nat) : V := .int n
theorem lc_pick (w : Walk J n G Y) {tt : TT} {vs : List Nat} {σ : L2.St} {H1 : Hp} {D : Addr} {Qd : Hp → Prop} (j : Nat) (cols : List Nat) (p : Nat → Bool) (hD : H1 D = none) (hn : cols.length = n) (hn2 : n ≤ 1000) (hG : ∀ H, Same H1 H → G H)
    (hY : ∀ (i : Nat) H x H', i < n → Y i H x H' → H' = H ∧ ∃ c : Nat, cols[i]? = some c ∧ x = .int c) (hj : (wipe σ vs).length > j)
    (hs : ∀ (i c : Nat) H (Q : Bool → Hp → Prop), cols[i]? = some c → Same H1 H → (∀ H', Same H H' → Q (p c) H') → wipe ((wipe σ vs).set j (some (.int c))) vs = wipe σ vs ∧ tt ((wipe σ vs).set j (some (.int c))) H Q)
    (hd : ∀ H, Same H1 H → H D = some (.lst ((cols.filter p).map vNat)) → Qd H) :
    ∃ W : Nat → Nat → Hp → Prop, (∃ m, W 0 m (upd H1 D (.lst []))) ∧ ∀ i m H, W i m H →
      (J.stop i H ∧ Qd H) ∨ (J.go i H ∧ ∃ Nx : Hp → Prop, (∀ H', Nx H' → ∃ m', m' < m ∧ W (i + 1) m' H') ∧ ∀ x H', J.yld i H x H' → gName j x (wipe σ vs) H' fun σ2 H2 => wipe σ2 vs = wipe σ vs ∧ tt σ2 H2 fun b H3 =>
        if b = true then tVar j σ2 H3 fun y H4 => ∃ acc, H4 D = some (.lst acc) ∧ acc.length < sizeLine ∧ Nx (upd H4 D (.lst (acc ++ [y]))) else Nx H3) := by
  refine lc_it w (fun i H => Same H1 H ∧ H D = some (.lst (((cols.take i).filter p).map vNat))) ⟨Same.new hD, upd_same⟩ (fun i H _ h => hG H h.1) ?_ ?_
  · rintro i x H H' hi ⟨s1, eD⟩ hy
    obtain ⟨rfl, c, ec, rfl⟩ := hY i H x H' hi hy
    have et : cols.take (i + 1) = cols.take i ++ [c] := by rw [List.take_add_one, ec]; rfl
    refine hs i c H' _ ec s1 fun H2 s2 => ?_
    have eD2 := s2 _ _ eD
    by_cases hp : p c = true
    · rw [hp]
      refine iteT ⟨.int c, ?_, _, eD2, ?_, ?_, ?_⟩
      · rw [List.getElem?_set_self hj]
      · rw [List.length_map]
        refine small1000 (Nat.le_trans (List.length_filter_le _ _) ?_)
        rw [List.length_take]
        omega
      · exact fun b o e => by rw [upd_ne (ne_of_none e hD)]; exact s2 _ _ (s1 b o e)
      · rw [upd_same, et, List.filter_append, List.map_append]
        simp [hp, vNat]
    · have hp' : p c = false := by simpa using hp
      rw [hp']
      refine iteF ⟨s1.trans s2, ?_⟩
      rw [eD2, et, List.filter_append]
      simp [hp']
  · rintro H ⟨s1, eD⟩
    rw [List.take_of_length_le (by omega)] at eD
    exact hd H s1 eD
end
theorem dp_nats {K : PySem.W.Frag} {H : Hp} : ∀ (ns : List Nat), DpAll K H (ns.map vNat) (ns.map nat)
  | [] => .nil
  | n :: r => .cons (.int n) (dp_nats r)
/-- the first column with a price below 0 -/
def mEnter (prices : List Rat) (cols : List Nat) : Option Nat := (cols.filter fun c => decide (prices.getD c 0 < 0)).head?
theorem mLvK_pos {rows : List (List Rat)} {basis : List Nat} {c : Nat} : ∀ {k : Nat} {r : Rat} {i : Nat}, mLvK rows basis c k = some (r, i) → 0 < (rows.getD i []).getD c 0
  | 0, r, i, h => by
    simp [mLvK] at h
  | k + 1, r, i, h => by
    rw [mLvK_succ] at h
    unfold mLvStep at h
    simp only at h
    split at h
    · rename_i hp
      split at h
      · cases h
        exact hp
      · rename_i b f e
        split at h
        · cases h
          exact hp
        · rw [h] at e
          exact mLvK_pos h
    · exact mLvK_pos h
theorem mLeaving_of {rows : List (List Rat)} {basis : List Nat} {c p : Nat} (h : mLeaving rows basis c = some p) : p < rows.length ∧ 0 < (rows.getD p []).getD c 0 := by
  unfold mLeaving at h
  cases e : mLvK rows basis c rows.length with
  | none =>
    rw [e] at h
    cases h
  | some x =>
    obtain ⟨r, i⟩ := x
    rw [e] at h
    cases h
    exact ⟨mLvK_lt e, mLvK_pos e⟩
/-- what a frame must be to be turned and priced -/
structure Shape (n : Nat) (costs : List Rat) (R : List (List Rat)) (B : List Nat) : Prop where
  len : R.length = B.length
  small : R.length ≤ 1000
  row : ∀ r ∈ R, r.length = n ∧ SzAll 400 r
  bas : ∀ b ∈ B, b < n
  pk : ∀ k, k ≤ R.length → SzAll 400 (mPk costs R B k)
section
variable {P : Program} {w : World} {K : PySem.W.Frag} {mg : Str → Option Value} {base : Heap}
abbrev sSettled : Stmt := topS 46
abbrev nSettled : List Str := ["frame", "costs", "columns", "prices", "below", "place", "column"]
theorem scSettled : FnScope nSettled ["frame", "costs", "columns"] (defScope sSettled) := ⟨rfl, rfl, rfl, by decide +kernel, rfl, by decide +kernel, by decide +kernel⟩
def spSettled (K : PySem.W.Frag) (C : Addr) : Sp := fun vs H Q _ => ∃ (X : List Addr) (v vc vl : V) (n : Nat) (rows : List (List Rat)) (basis : List Nat) (costs : List Rat) (cols : List Nat) (J : List (List Rat) → List Nat → Prop) (μ : List (List Rat) → List Nat → Nat),
  vs = [v, vc, vl] ∧ Xin X H ∧ FrameAt K C X H v rows basis ∧ Dp K (cutH X H) vc (fRow costs) ∧ Dp K (cutH X H) vl (iRow cols) ∧ costs.length = n ∧ n ≤ 1000 ∧ (∀ c ∈ cols, c < n) ∧ cols.length ≤ 1000 ∧ J rows basis ∧
  (∀ R B, J R B → Shape n costs R B) ∧
  (∀ R B c p, J R B → mEnter (mPrices costs R B) cols = some c → mLeaving R B c = some p → J (mTurn R p c) (B.set p c) ∧ μ (mTurn R p c) (B.set p c) < μ R B) ∧
  (∀ R B H' t vf vp, J R B → mEnter (mPrices costs R B) cols = none → Same H H' → H' t = some (.tup [vf, vp]) → FrameAt K C X H' vf R B → Dp K (cutH X H') vp (fRow (mPrices costs R B)) → Q (.ref t) H') ∧
  (∀ R B c H' t vp, J R B → mEnter (mPrices costs R B) cols = some c → mLeaving R B c = none → Same H H' → H' t = some (.tup [.non, vp]) → Dp K (cutH X H') vp (fRow (mPrices costs R B)) → Q (.ref t) H')
theorem mPrices_len {costs : List Rat} {R : List (List Rat)} {B : List Nat} {n : Nat} (hc : costs.length = n) (hr : ∀ r ∈ R, r.length = n) : (mPrices costs R B).length = n := by
  unfold mPrices
  have h : ∀ (l : List (List Rat × Nat)) (f : List Rat), f.length = n → (∀ x ∈ l, x.1.length = n) → (l.foldl mPStep f).length = n := by
    intro l
    induction l with
    | nil => exact fun f h _ => h
    | cons x r ih =>
      intro f hf hx
      refine ih _ ?_ fun y hy => hx y (List.mem_cons_of_mem _ hy)
      rw [mPStep_len (by rw [hx x List.mem_cons_self, hf]), hf]
  exact h _ _ hc fun x hx => hr _ (List.of_mem_zip hx).1
theorem c_settled {C : Addr} (D : DefAt K mg "settled" sSettled ["frame", "costs", "columns"]) (T : FrameC K C) (Pr : MCal P w K mg base 5 C "prices" ["self", "costs"] (spPrices K C)) (Lv : MCal P w K mg base 5 C "leaving" ["self", "column"] (spLeaving K C))
    (Tu : MCal P w K mg base 5 C "turned" ["self", "place", "column"] (spTurned K C)) (ml : mg "len" = none) : Cal P w K mg base 6 "settled" ["frame", "costs", "columns"] (spSettled K C) := by
  refine D.cal fun f fd F => ?_
  refine F.ok scSettled (fun vs H Q E h => ?_) (fun cdv A outer s H vs Q E hr h => ?_)
  · obtain ⟨X, v, vc, vl, n, rows, basis, costs, cols, J, μ, rfl, _⟩ := h
    rfl
  · obtain ⟨X, v, vc, vl, n, rows, basis, costs, cols, J, μ, rfl, hX, hF, hc, hl, hcl, hn, hcols, hcl2, hJ, hsh, hstep, q1, q2⟩ := h
    obtain ⟨f1, fd1, m1, F1, b1⟩ := Pr.ex
    obtain ⟨f2, fd2, m2, F2, b2⟩ := Lv.ex
    obtain ⟨f3, fd3, m3, F3, b3⟩ := Tu.ex
    refine ⟨_, pss_one (ps_while PassesOwn.never (pt_val pe_bl) (pss_cons (ps_set (i := 3) scSettled.nd rfl (.inr rfl) (pe_meth (pv 0) T.cl m1 F1 hr b1 .nil pass0 (pa_cons (pv 1) pa_nil)))
      (pss_cons (ps_setLc (i := 4) (own := [("column", 6)]) (g := gName 6) (tt := tTest (tOp (rI0 fun i j => V.bl (decide (i < j))) (tOp (rNum K) (tOp (rIxL K) (tVar 3) (tVar 6)) (tC (.int 0))) (tC (.int 0)))) rfl scSettled.nd rfl rfl (sw_true rfl rfl rfl (by decide +kernel)) (pi_list (pv 2))
        (blkOk_by (own := [("column", 6)]) (N := nSettled) (sc := defScope sSettled) (by decide +kernel)) (fun _ _ _ _ _ => pg_name (i := 6) scSettled.nd rfl (.inl rfl))
        (fun _ _ _ _ _ => pts_one (pt_cmpR op_lt (pe_ix (ix_numK K) (pe_ix (ix_lstK K) (pv 3) (pv 6) (fun _ _ => rfl)) pe_int (fun _ _ => rfl)) pe_int (nomark _))) (fun _ _ _ _ _ => pv 6))
      (pss_cons (ps_if (pt_cmpR op_eq (pe_callB call_len_seq (by rfl) ml PySem.boot_len (pa_cons (pv 4) pa_nil)) pe_int (nomark _)) (pss_one (ps_ret (pe_tup (pa_cons (pv 0) (pa_cons (pv 3) pa_nil))))) pss_nil)
      (pss_cons (ps_set (i := 5) scSettled.nd rfl (.inl rfl) (pe_meth (pv 0) T.cl m2 F2 hr b2 .nil pass0 (pa_cons (pe_ix (ix_lstK K) (pv 4) pe_int (fun _ _ => rfl)) pa_nil)))
      (pss_cons (ps_if (pt_cmpR op_isN (pv 5) pe_non (nomark _)) (pss_one (ps_ret (pe_tup (pa_cons pe_non (pa_cons (pv 3) pa_nil))))) pss_nil)
      (pss_one (ps_set (i := 0) scSettled.nd rfl (.inl rfl) (pe_meth (pv 0) T.cl m3 F3 hr b3 .nil pass0 (pa_cons (pv 5) (pa_cons (pe_ix (ix_lstK K) (pv 4) pe_int (fun _ _ => rfl)) pa_nil))))))))))), ?_⟩
    obtain ⟨ac, cs, rfl, hsc, hdc⟩ := hl.list
    have lcs : cs.length = cols.length := by rw [hdc.length, List.length_map]
    refine ⟨fun m σ H2 => ∃ R B vF f3 f4 f5, m = μ R B ∧ J R B ∧ σ = [some vF, some vc, some (.ref ac), f3, f4, f5, none] ∧ Same H H2 ∧ FrameAt K C X H2 vF R B, ⟨_, _, _, _, _, _, _, rfl, hJ, rfl, Same.refl _, hF⟩, ?_⟩
    rintro m σ H2 ⟨R, B, vF, f3, f4, f5, rfl, hJ2, rfl, s2, hF2⟩
    have sh := hsh R B hJ2
    refine ⟨true, rfl, iteT ⟨fun σ H3 => ∃ R' B' vF f3 f4 f5, μ R' B' < μ R B ∧ J R' B' ∧ σ = [some vF, some vc, some (.ref ac), f3, f4, f5, none] ∧ Same H H3 ∧ FrameAt K C X H3 vF R' B',
      fun σ H3 ⟨R', B', vF, f3, f4, f5, h1, h2, h3, h4, h5⟩ => ⟨_, h1, R', B', vF, f3, f4, f5, rfl, h2, h3, h4, h5⟩, ?_⟩⟩
    -- prices
    obtain ⟨a, dx, l, b, rfl, ha, _⟩ := id hF2
    refine ⟨_, rfl, a, dx, _, rfl, ha, rfl, _, rfl, X, _, _, n, R, B, costs, rfl, hX.same s2, hF2, hc.same (same_cut s2), sh.len, sh.row, sh.bas, hcl, hn, sh.pk, fun H3 vp s3 hvp => ?_⟩
    have s03 := s2.trans s3
    obtain ⟨ap, ps, rfl, hsp, hdp⟩ := hvp.list
    have lps : (mPrices costs R B).length = n := mPrices_len hcl fun r hr => (sh.row r hr).1
    -- below
    refine ⟨_, rfl, ac, rfl, ⟨_, s03.seq (cut_same.seq hsc)⟩, fun D hD => ?_⟩
    refine lc_pick walk_list 6 cols (fun c => decide ((mPrices costs R B).getD c 0 < 0)) hD (by omega) (by omega) (fun H4 s4 => (s03.trans s4).seq (cut_same.seq hsc)) ?_ (by show 6 < 7; decide) ?_ fun H4 s4 eD => ?_
    · rintro i H4 x H5 hi ⟨rfl, ex⟩
      obtain ⟨c, ec, rfl⟩ := nats_at hdc ex
      exact ⟨rfl, c, ec, rfl⟩
    · intro i c H4 Q2 ec s4 k
      refine ⟨rfl, ?_⟩
      have hcn : c < (mPrices costs R B).length := by
        rw [lps]
        exact hcols c (List.mem_of_getElem? ec)
      obtain ⟨vq, evq, hvq⟩ := frs_get hdp (List.getElem?_eq_getElem hcn)
      have e2 : (mPrices costs R B).getD c 0 = (mPrices costs R B)[c] := by rw [List.getD_eq_getElem?_getD, List.getElem?_eq_getElem hcn]; rfl
      have sA : Same (cutH X H3) H4 := cut_same.trans s4
      have k' := k H4 (Same.refl _)
      refine ⟨_, rfl, _, rfl, ap, ps, _, _, rfl, rfl, sA.seq hsp, atI_nat evq, _, hvq.same sA, rfl, _, _, rfl, rfl, _, rfl, ?_⟩
      rw [show decide ((mPrices costs R B)[c].num < 0) = decide ((mPrices costs R B).getD c 0 < 0) by rw [e2]; exact decide_eq_decide.mpr num_neg]
      exact k'
    · have s04 := s03.trans s4
      have hlst : SqL K H4 D (((cols.filter fun c => decide ((mPrices costs R B).getD c 0 < 0))).map vNat) := .inl (.inl eD)
      refine ⟨_, rfl, D, _, rfl, .inl hlst, rfl, _, rfl, ?_⟩
      cases hb : (cols.filter fun c => decide ((mPrices costs R B).getD c 0 < 0)) with
      | nil =>
        have hen : mEnter (mPrices costs R B) cols = none := by
          unfold mEnter
          rw [hb]
          rfl
        refine iteT ⟨_, rfl, _, rfl, (by show 2 ≤ sizeLine; decide), fun t ht => ?_⟩
        have s5 : Same H4 (upd H4 t (.tup [.ref a, .ref ap])) := Same.new ht
        exact q1 R B _ t _ _ hJ2 hen (s04.trans s5) upd_same (hF2.same (s3.trans (s4.trans s5))) (hvp.same (same_cut (s4.trans s5)))
      | cons c rest =>
        rw [hb] at hlst
        have hen : mEnter (mPrices costs R B) cols = some c := by
          unfold mEnter
          rw [hb]
          rfl
        have hcm : c ∈ cols := by
          have : c ∈ (cols.filter fun c => decide ((mPrices costs R B).getD c 0 < 0)) := by
            rw [hb]
            exact List.mem_cons_self
          exact (List.mem_filter.mp this).1
        have hcn : c < n := hcols c hcm
        refine ite2 (fun e => ?_) (fun _ => ?_)
        · exfalso
          have e1 := V.int.inj (of_decide_eq_true e)
          rw [List.length_map, List.length_cons] at e1
          omega
        refine ⟨_, rfl, a, dx, _, rfl, (s3.trans s4) _ _ ha, rfl, _, rfl, D, _, _, _, rfl, rfl, hlst, atI_nat (j := 0) rfl, X, _, n, c, R, B, rfl, hX.same s04, hF2.same (s3.trans s4), sh.len, sh.row, hcn, sh.small, fun H5 s5 => ?_⟩
        have s45 := s4.trans s5
        cases hlv : mLeaving R B c with
        | none =>
          refine ⟨_, rfl, rfl, true, rfl, iteT ⟨_, rfl, (by show 2 ≤ sizeLine; decide), fun t ht => ?_⟩⟩
          have s6 : Same H5 (upd H5 t (.tup [.non, .ref ap])) := Same.new ht
          exact q2 R B c _ t _ hJ2 hen hlv (s04.trans (s5.trans s6)) upd_same (hvp.same (same_cut (s45.trans s6)))
        | some p =>
          obtain ⟨hp, hpos⟩ := mLeaving_of hlv
          have hrp : R[p]? = some R[p] := List.getElem?_eq_getElem hp
          have e1 : R.getD p [] = R[p] := by rw [List.getD_eq_getElem?_getD, hrp]; rfl
          have hcr : c < R[p].length := by
            rw [(sh.row _ (List.getElem_mem hp)).1]
            exact hcn
          have e2 : R[p].getD c 0 = R[p][c] := by rw [List.getD_eq_getElem?_getD, List.getElem?_eq_getElem hcr]; rfl
          rw [e1, e2] at hpos
          obtain ⟨j1, j2⟩ := hstep R B c p hJ2 hen hlv
          have lB : B.length ≤ 1000 := by
            rw [← sh.len]
            exact sh.small
          refine ⟨_, rfl, rfl, false, rfl, iteF ⟨_, rfl, a, dx, _, rfl, (s3.trans s45) _ _ ha, rfl, _, rfl, _, rfl, D, _, _, _, rfl, rfl, s5.seq hlst, atI_nat (j := 0) rfl, X, _, p, c, n, R, B, R[p], R[p][c], rfl, hX.same (s04.trans s5), hF2.same (s3.trans s45),
            hrp, List.getElem?_eq_getElem hcr, fun z => ?_, sh.row, hn, sh.small, lB, fun H6 v6 s6 hF6 => ?_⟩⟩
          · rw [z] at hpos
            exact absurd hpos (by decide)
          · exact ⟨_, _, _, _, _, _, j2, j1, rfl, s04.trans (s5.trans s6), hF6⟩
end
end Cs
set_option Elab.async false
set_option linter.all false
set_option maxRecDepth 100000
set_option maxHeartbeats 4000000
/-! without_fills -/
namespace Cs
open PySem PySem.Spec PyProof.Rows L2
theorem walk_rangeN {n : Nat} : Walk (Itr 0 n) n (fun _ => True) (fun i H x H' => H' = H ∧ x = .int (i : Nat)) :=
  ⟨fun _ _ hi _ => hi, fun _ _ => Nat.le_refl _, fun i _ x _ _ _ y => ⟨y.1, by rw [y.2]; congr 1; omega⟩⟩
/-- the first column ahead of `first` that stands in a row -/
def mCol (R : List (List Rat)) (place first : Nat) : Option Nat := ((List.range' 1 (first - 1)).filter fun c => decide ((R.getD place []).getD c 0 ≠ 0)).head?
section
variable {P : Program} {w : World} {K : PySem.W.Frag} {mg : Str → Option Value} {base : Heap}
abbrev sWithout : Stmt := topS 50
abbrev nWithout : List Str := ["frame", "first", "place", "columns", "column"]
theorem scWithout : FnScope nWithout ["frame", "first"] (defScope sWithout) := ⟨rfl, rfl, rfl, by decide +kernel, rfl, by decide +kernel, by decide +kernel⟩
def spWithout (K : PySem.W.Frag) (C : Addr) : Sp := fun vs H Q _ => ∃ (X : List Addr) (v : V) (n m first : Nat) (rows : List (List Rat)) (basis : List Nat) (J : Nat → List (List Rat) → List Nat → Prop),
  vs = [v, .int first] ∧ Xin X H ∧ FrameAt K C X H v rows basis ∧ 1 ≤ first ∧ first ≤ n ∧ n ≤ 1000 ∧ m ≤ 1000 ∧ rows.length = m ∧ J 0 rows basis ∧
  (∀ k R B, J k R B → R.length = m ∧ B.length = m ∧ (∀ r ∈ R, r.length = n ∧ SzAll 400 r)) ∧
  (∀ k R B c, k < m → J k R B → first ≤ B.getD k 0 → mCol R k first = some c → J (k + 1) (mTurn R k c) (B.set k c)) ∧
  (∀ k R B, k < m → J k R B → first ≤ B.getD k 0 → mCol R k first = none → J (k + 1) R B) ∧
  (∀ k R B, k < m → J k R B → ¬ first ≤ B.getD k 0 → J (k + 1) R B) ∧
  (∀ R B H' v', J m R B → Same H H' → FrameAt K C X H' v' R B → Q v' H')
theorem c_without {C : Addr} (D : DefAt K mg "without_fills" sWithout ["frame", "first"]) (T : FrameC K C) (Tu : MCal P w K mg base 5 C "turned" ["self", "place", "column"] (spTurned K C)) (ml : mg "len" = none) (mr : mg "range" = none) (Z : Cst K mg "ZERO" 0) :
    Cal P w K mg base 6 "without_fills" ["frame", "first"] (spWithout K C) := by
  refine D.cal fun f fd F => ?_
  refine F.ok scWithout (fun vs H Q E h => ?_) (fun cdv A outer s H vs Q E hr h => ?_)
  · obtain ⟨X, v, n, m, first, rows, basis, J, rfl, _⟩ := h
    rfl
  · obtain ⟨X, v, n, m, first, rows, basis, J, rfl, hX, hF, hf1, hfn, hn, hm, hrl, hJ, hsh, j1, j2, j3, q⟩ := h
    obtain ⟨f3, fd3, m3, F3, b3⟩ := Tu.ex
    refine ⟨_, pss_cons (ps_for PassesOwn.never rfl (pi_range1 (by rfl) mr (pa_cons (pe_callB call_len_seq (by rfl) ml PySem.boot_len (pa_cons (pe_fldK K (pv 0)) pa_nil)) pa_nil)) (pg_name (i := 2) scWithout.nd rfl (.inr rfl))
        (pss_one (ps_if (pt_cmpR op_ge (pe_ix (ix_lstK K) (pe_fldK K (pv 0)) (pv 2) (fun _ _ => rfl)) (pv 1) (nomark _))
          (pss_cons (ps_setLc (i := 3) (own := [("column", 4)]) (g := gName 4) (tt := tTest (tOp (rNeD K) (tOp (rIxL K) (tOp (rIxL K) (tFld K (tVar 0) "lines") (tVar 2)) (tVar 4)) (tCst K 0))) rfl scWithout.nd rfl rfl (sw_true rfl rfl rfl (by decide +kernel))
            (pi_range2 (by rfl) mr (pa_cons pe_int (pa_cons (pv 1) pa_nil))) (blkOk_by (own := [("column", 4)]) (N := nWithout) (sc := defScope sWithout) (by decide +kernel)) (fun _ _ _ _ _ => pg_name (i := 4) scWithout.nd rfl (.inl rfl))
            (fun _ _ _ _ _ => pts_one (pt_cmpR (op_neK K hr.units) (pe_ix (ix_lstK K) (pe_ix (ix_lstK K) (pe_fldK K (pv 0)) (pv 2) (fun _ _ => rfl)) (pv 4) (fun _ _ => rfl)) (pe_cst Z) (nomark _))) (fun _ _ _ _ _ => pv 4))
          (pss_one (ps_if (pt_cmpR op_gt (pe_callB call_len_seq (by rfl) ml PySem.boot_len (pa_cons (pv 3) pa_nil)) pe_int (nomark _))
            (pss_one (ps_set (i := 0) scWithout.nd rfl (.inr rfl) (pe_meth (pv 0) T.cl m3 F3 hr b3 .nil pass0 (pa_cons (pv 2) (pa_cons (pe_ix (ix_lstK K) (pv 3) pe_int (fun _ _ => rfl)) pa_nil))))) pss_nil))) pss_nil)))
      (pss_one (ps_ret (pv 0))), ?_⟩
    obtain ⟨a, dx, l, b, rfl, ha, hl, hb⟩ := id hF
    obtain ⟨al, ls, rfl, hsl, hdl⟩ := hl.list
    have lls : ls.length = m := by rw [hdl.length, List.length_map, hrl]
    refine ⟨_, rfl, a, C, dx, _, _, rfl, ha, T.cl, T.nL, rfl, al, ls, rfl, .inl (cut_same.seq hsl), ls.length, rfl, by omega, by omega, ?_⟩
    refine for_it walk_rangeN (fun k σ H2 => ∃ R B vF f2 f3 f4, σ = [some vF, some (.int first), f2, f3, f4] ∧ Same H H2 ∧ FrameAt K C X H2 vF R B ∧ J k R B) ⟨rows, basis, _, none, none, none, rfl, Same.refl _, hF, hJ⟩ (fun _ _ _ _ _ => trivial) ?_ ?_
    · rintro k x σ H2 H3 hk ⟨R, B, vF, g2, g3, g4, rfl, s2, hF2, hJ2⟩ ⟨rfl, rfl⟩
      have hk : k < m := by
        have : k < (ls.length : Int).toNat := hk
        omega
      obtain ⟨hRl, hBl, hrow⟩ := hsh k R B hJ2
      obtain ⟨a2, dx2, l2, b2, rfl, ha2, hl2, hb2⟩ := id hF2
      obtain ⟨al2, ls2, rfl, hsl2, hdl2⟩ := hl2.list
      obtain ⟨ab2, bs2, rfl, hsb2, hdb2⟩ := hb2.list
      have hkB : k < B.length := by omega
      have hkR : k < R.length := by omega
      have eB : B.getD k 0 = B[k] := by rw [List.getD_eq_getElem?_getD, List.getElem?_eq_getElem hkB]; rfl
      have eR : R.getD k [] = R[k] := by rw [List.getD_eq_getElem?_getD, List.getElem?_eq_getElem hkR]; rfl
      have hrk := hrow _ (List.getElem_mem hkR)
      obtain ⟨vr, evr, hvr⟩ := rows_get hdl2 (List.getElem?_eq_getElem hkR)
      obtain ⟨ar, rs, rfl, hsr, hdr⟩ := hvr.list
      refine ⟨_, rfl, a2, C, dx2, _, _, rfl, ha2, T.cl, T.nB, rfl, _, rfl, ab2, bs2, _, _, rfl, rfl, cut_same.seq hsb2, atI_nat (nats_get hdb2 (List.getElem?_eq_getElem hkB)), _, rfl, _, _, rfl, rfl, _, rfl, ite2 (fun e => ?_) (fun e => ?_)⟩
      · have hge : first ≤ B[k] := by
          have := of_decide_eq_true e
          omega
        refine ⟨_, rfl, 1, first, rfl, ⟨by decide, by decide, by omega, by omega⟩, fun D hD => ?_⟩
        have hlen : (List.range' 1 (first - 1)).length = ((first : Int) - 1).toNat := by
          rw [List.length_range']
          omega
        refine lc_pick walk_range 4 (List.range' 1 (first - 1)) (fun c => decide ((R.getD k []).getD c 0 ≠ 0)) hD hlen (by omega) (fun _ _ => trivial) ?_ (by show 4 < 5; decide) ?_ fun H4 s4 eD => ?_
        · rintro i H4 x H5 hi ⟨rfl, rfl⟩
          refine ⟨rfl, 1 + i, ?_, ?_⟩
          · rw [List.getElem?_range' (by omega)]
            congr 1
            omega
          · congr 1
        · intro i c H4 Q2 ec s4 kk
          refine ⟨rfl, ?_⟩
          have hc : c < R[k].length := by
            rw [hrk.1]
            have := List.mem_range'_1.mp (List.mem_of_getElem? ec)
            omega
          have eC : R[k].getD c 0 = R[k][c] := by rw [List.getD_eq_getElem?_getD, List.getElem?_eq_getElem hc]; rfl
          obtain ⟨vq, evq, hvq⟩ := frs_get hdr (List.getElem?_eq_getElem hc)
          have sA : Same (cutH X H3) H4 := cut_same.trans s4
          have kk' := kk H4 (Same.refl _)
          refine ⟨_, rfl, a2, C, dx2, _, _, rfl, s4 _ _ ha2, T.cl, T.nL, rfl, _, rfl, al2, ls2, _, _, rfl, rfl, sA.seq hsl2, atI_nat evr, _, rfl, ar, rs, _, _, rfl, rfl, sA.seq hsr, atI_nat evq, fun vz hvz => ⟨_, fr 0, (hvq.same sA).dp, hvz.dp, rfl, rfl, _, rfl, ?_⟩⟩
          rw [fr_eqv]
          rw [show (!decide (R[k][c] = 0)) = decide ((R.getD k []).getD c 0 ≠ 0) by rw [eR, eC]; simp]
          exact kk'
        · have s04 := s2.trans s4
          have hlst : SqL K H4 D (((List.range' 1 (first - 1)).filter fun c => decide ((R.getD k []).getD c 0 ≠ 0)).map vNat) := .inl (.inl eD)
          refine ⟨_, rfl, D, _, rfl, .inl hlst, _, _, rfl, rfl, _, rfl, ?_⟩
          cases hb : (List.range' 1 (first - 1)).filter fun c => decide ((R.getD k []).getD c 0 ≠ 0) with
          | nil =>
            have hen : mCol R k first = none := by
              unfold mCol
              rw [hb]
              rfl
            refine iteF ⟨R, B, _, _, _, _, rfl, s04, hF2.same s4, j2 k R B hk hJ2 (by omega) hen⟩
          | cons c rest =>
            rw [hb] at hlst
            have hen : mCol R k first = some c := by
              unfold mCol
              rw [hb]
              rfl
            have hcm : c ∈ (List.range' 1 (first - 1)).filter fun c => decide ((R.getD k []).getD c 0 ≠ 0) := by
              rw [hb]
              exact List.mem_cons_self
            obtain ⟨hc1, hc2⟩ := List.mem_filter.mp hcm
            have hc3 := List.mem_range'_1.mp hc1
            have hc : c < R[k].length := by
              rw [hrk.1]
              omega
            have eC : R[k].getD c 0 = R[k][c] := by rw [List.getD_eq_getElem?_getD, List.getElem?_eq_getElem hc]; rfl
            have hne : R[k][c] ≠ 0 := by
              have := of_decide_eq_true hc2
              rw [eR, eC] at this
              exact this
            refine ite2 (fun _ => ?_) (fun e => ?_)
            · refine ⟨_, rfl, a2, dx2, _, rfl, s4 _ _ ha2, rfl, _, rfl, _, rfl, D, _, _, _, rfl, rfl, hlst, atI_nat (j := 0) rfl, X, _, k, c, n, R, B, R[k], R[k][c], rfl, hX.same s04, hF2.same s4,
                List.getElem?_eq_getElem hkR, List.getElem?_eq_getElem hc, hne, hrow, hn, by omega, by omega, fun H5 v5 s5 hF5 => ?_⟩
              exact ⟨_, _, _, _, _, _, rfl, s04.trans s5, hF5, j1 k R B c hk hJ2 (by omega) hen⟩
            · exfalso
              refine e (decide_eq_true ?_)
              rw [List.length_map, List.length_cons]
              omega
      · have hlt : ¬ first ≤ B.getD k 0 := fun z => e (decide_eq_true (by omega))
        exact ⟨R, B, _, _, _, _, rfl, s2, hF2, j3 k R B hk hJ2 hlt⟩
    · rintro σ H2 ⟨R, B, vF, g2, g3, g4, rfl, s2, hF2, hJ2⟩
      have e : (ls.length : Int).toNat = m := by omega
      rw [e] at hJ2
      exact ⟨_, rfl, q R B H2 vF hJ2 s2 hF2⟩
end
end Cs
set_option Elab.async false
set_option linter.all false
set_option maxRecDepth 100000
set_option maxHeartbeats 4000000
/-! enumerate over a tuple, enumerate over zip of two lists -/
namespace Cs
open PySem PySem.Spec PyProof.Rows L2
/-! ### enumerate(v) begins -/
theorem meets_enum1 {v : Value} {o : Obj} {G : Heap → Prop} (B : Begins v o G) :
    Meets (Builtin.«enumerate.__new__» ⟨[.type "enumerate", v], []⟩) (fun _ R s => G s.heap ∧
      R (.ok (.ret (.ref (s.heap.push o).objs.size))) { s with heap := (s.heap.push o).push { cls := .type "enumerate", data := .fields #[.none, .bool false, .ref s.heap.objs.size, rawInt 0, .none, .none] } }) :=
  .of_wp fun prog w A R s h => by
    obtain ⟨hp, g, d, tk, os⟩ := s
    obtain ⟨h1, h⟩ := h
    have hsub := sub_enumerate
    have q1 : ∀ {A' : Around} {E : Value → Shared → Prop} {Q : Value → Shared → Prop}, Q (.ref hp.objs.size) ⟨hp.push o, g, d, tk, os⟩ → wpAny (model prog w) A' (pyIter v) Q E ⟨hp, g, d, tk, os⟩ := fun q => B.iter prog w _ _ ⟨hp, g, d, tk, os⟩ _ h1 q
    wp_walk using q1
    refine wpAny_stack_any fun st => wpAny_pure ?_
    split
    · rename_i c _ _ _ _ _
      cases (c == Value.type "enumerate") <;> (wp_walk using q1; exact ⟨_, rfl, h⟩)
    · wp_walk using q1
      exact ⟨_, rfl, h⟩
theorem meets_enumZ {z TI TO : Addr} :
    Meets (Builtin.«enumerate.__new__» ⟨[.type "enumerate", .ref z], []⟩) (fun _ R s => IsZip s.heap z TI TO .none ∧
      R (.ok (.ret (.ref s.heap.objs.size))) { s with heap := s.heap.push { cls := .type "enumerate", data := .fields #[.none, .bool false, .ref z, rawInt 0, .none, .none] } }) :=
  .of_wp fun prog w A R s h => by
    obtain ⟨hp, g, d, tk, os⟩ := s
    obtain ⟨h1, h⟩ := h
    have hsub := sub_enumerate
    have q1 : ∀ {A' : Around} {E : Value → Shared → Prop} {Q : Value → Shared → Prop}, Q (.ref z) ⟨hp, g, d, tk, os⟩ → wpAny (model prog w) A' (pyIter (.ref z)) Q E ⟨hp, g, d, tk, os⟩ := fun q => wpAny_pyIter_zip (s := ⟨hp, g, d, tk, os⟩) h1 q
    wp_walk using q1
    refine wpAny_stack_any fun st => wpAny_pure ?_
    split
    · rename_i c _ _ _ _ _
      cases (c == Value.type "enumerate") <;> (wp_walk using q1; exact ⟨_, rfl, h⟩)
    · wp_walk using q1
      exact ⟨_, rfl, h⟩
section
variable {prog : Program} {w : World} {A : Around} {E : Value → Shared → Prop} {s : Shared}
theorem enum1_begins {v : Value} {o : Obj} {G : Heap → Prop} {Q : Value → Shared → Prop} (B : Begins v o G) (h1 : G s.heap)
    (h : ∀ h', IsEnum h' (s.heap.objs.size + 1) s.heap.objs.size 0 .none → h'.get? s.heap.objs.size = some o → (∀ b o, s.heap.get? b = some o → h'.get? b = some o) → Q (.ref (s.heap.objs.size + 1)) { s with heap := h' }) :
    wpAny (model prog w) A (call (.type "enumerate") [v]) Q E s := by
  refine callType_new F.called_enumerate (by decide) (F.typeCall_enumerate_1 _) (F.newCall_enumerate_1 _) (fun obj => F.args_object_init_2 obj _) F.entry_enumerate_new (meets_enum1 B) ⟨h1, ?_⟩
  have hz : (s.heap.push o).objs.size = s.heap.objs.size + 1 := Heap.size_push ..
  show _ ∧ _
  rw [hz]
  have he := Heap.get?_push_size (s.heap.push o) (o := { cls := .type "enumerate", data := .fields #[.none, .bool false, .ref s.heap.objs.size, rawInt 0, .none, .none] }) rfl
  rw [hz] at he
  exact ⟨⟨_, he, rfl⟩, h _ he (Heap.get?_push_of_some _ (Heap.get?_push_size _ B.free)) fun b o x => Heap.get?_push_of_some _ (Heap.get?_push_of_some _ x)⟩
theorem enumZ_begins {z TI TO : Addr} {Q : Value → Shared → Prop} (hz : IsZip s.heap z TI TO .none)
    (h : ∀ h', IsEnum h' s.heap.objs.size z 0 .none → (∀ b o, s.heap.get? b = some o → h'.get? b = some o) → Q (.ref s.heap.objs.size) { s with heap := h' }) :
    wpAny (model prog w) A (call (.type "enumerate") [.ref z]) Q E s := by
  refine callType_new F.called_enumerate (by decide) (F.typeCall_enumerate_1 _) (F.newCall_enumerate_1 _) (fun obj => F.args_object_init_2 obj _) F.entry_enumerate_new (meets_enumZ (TI := TI) (TO := TO)) ⟨hz, ?_⟩
  have he := Heap.get?_push_size s.heap (o := { cls := .type "enumerate", data := .fields #[.none, .bool false, .ref z, rawInt 0, .none, .none] }) rfl
  exact ⟨⟨_, he, rfl⟩, h _ he fun b o x => Heap.get?_push_of_some _ x⟩
end
/-! ### enumerate(tuple) -/
def IteT (K : PySem.W.Frag) (a : Addr) : It :=
  ⟨fun i H => ∃ (xs : List V) (x : V), SqT K H a xs ∧ xs[i]? = some x, fun i H v H' => ∃ T x, v = .ref T ∧ H T = none ∧ H' = upd H T (.tup [.int (i : Nat), x]) ∧ ∀ xs, SqT K H a xs → xs[i]? = some x, fun i H => ∃ xs : List V, SqT K H a xs ∧ xs.length ≤ i⟩
theorem walk_enumT {K : PySem.W.Frag} {a : Addr} {xs : List V} : Walk (IteT K a) xs.length (fun H => SqT K H a xs) (YPair (fun i => some (.int (i : Nat))) (fun i => xs[i]?)) := by
  refine ⟨fun i _ hi q => ⟨xs, xs[i], q, by simp [hi]⟩, fun _ q => ⟨xs, q, Nat.le_refl _⟩, fun i H v H' _ q y => ?_⟩
  obtain ⟨T, x, h1, h2, h3, h4⟩ := y
  exact ⟨T, .int (i : Nat), x, h1, h2, h3, rfl, h4 xs q⟩
theorem turn_enumT {P : Program} {w : World} {K : PySem.W.Frag} {elts : List Expr} {kk : Nat} {tpos : Pos} (a e it : Addr) (hae : a ≠ it) :
    Turn P w K (.Tuple elts kk tpos) (IteT K a) [e, it] e (fun i h => (∃ old, IsEnum h e it ((i : Nat) : Int) old) ∧ h.IsTupleIter it a i ∧ e ≠ it) where
  mem := by simp
  obj := fun i h st b hb => by
    obtain ⟨⟨old, he⟩, ⟨o, ho, hc, hd⟩, _⟩ := st
    rcases (show b = e ∨ b = it by simpa using hb) with z | z
    · rw [z]; exact ⟨_, he, fun v q => nomatch q⟩
    · rw [z]; exact ⟨o, ho, fun v q => by rw [hd] at q; cases q⟩
  keep := fun i h h' st k => ⟨st.1.imp fun old he => k e (by simp) _ he, st.2.1.at fun o q => k it (by simp) o q, st.2.2⟩
  item := by
    intro X hP hw hK hc i pins s σ H E I hf st hg
    subst hP hw hK
    obtain ⟨⟨old, he⟩, hit, hne⟩ := st
    obtain ⟨xs, x, hq, hx⟩ := hg
    obtain ⟨its, rv, p, hz⟩ := I.tuple hq
    obtain ⟨u, hu, ru⟩ := rv.get hx
    have hel : e < s.heap.objs.size := Heap.lt_size he
    have hil : it < s.heap.objs.size := by obtain ⟨_, q, _⟩ := hit; exact Heap.lt_size q
    have hilen : i < its.toArray.size := by
      have := (List.getElem?_eq_some_iff.mp hu).1
      simpa using this
    have pT : s.heap.IsTuple a its.toArray := p
    have hea : e ≠ a := fun z => by
      obtain ⟨o, ho, hc', _⟩ := p
      rw [← z, he] at ho
      cases ho
      simp at hc'
    refine wpAny_pyNext_enum_itemD (Draws.tuple (show X.A.in1.handled = none from I.ok.hd hc) it a hae its.toArray) he ⟨hit, pT⟩ hilen hne (by simp [hne, hea]) fun x' h' tk hx' ho hst hT hsz hk => ?_
    obtain rfl : u = x' := by
      have h1 : its.toArray[i]? = some u := by simpa using hu
      rw [h1] at hx'
      exact Option.some.inj hx'
    refine ⟨_, rfl, wpAny_letOwnedTupleGo_enum (s := { s with heap := h', toks := tk + 1 }) ho fun h'' he' sb => ?_⟩
    have hT2 : h''.get? s.heap.objs.size = some { cls := .type "tuple", data := .seq #[.int i tk, u] } := (sb.2 _ (Nat.ne_of_gt hel)).trans hT
    have new : ObjOk X.prog X.w (upd H s.heap.objs.size (.tup [.int (i : Nat), x])) h'' s.heap.objs.size (.tup [.int (i : Nat), x]) :=
      ⟨by show 2 ≤ sizeLine; decide, [.int i tk, u], .cons ⟨_, rfl⟩ (.cons ru .nil), ⟨_, hT2, rfl, _, rfl⟩⟩
    have I1 : Inv X pins σ (upd H s.heap.objs.size (.tup [.int (i : Nat), x])) { s with heap := h'', toks := tk + 1 } :=
      I.turnedNew (ch := [e, it]) (fun b ob hb q => (sb.2 b (fun z => hb (by simp [z]))).trans (hk b ob (fun z => hb (by simp [z])) (fun z => hb (by simp [z])) q)) hf (Nat.le_refl _) new
    refine ⟨.ref s.heap.objs.size, _, I1, rfl, ⟨_, x, rfl, I.hok.fresh (Nat.le_refl _), rfl, fun ys hy => by rw [I.tuple_inj hy hq]; exact hx⟩, ⟨⟨u, ?_⟩, hst.1.at fun o q => (sb.2 it (Ne.symm hne)).trans q, hne⟩, fun b hb => ?_⟩
    · rw [show ((i + 1 : Nat) : Int) = (i : Int) + 1 by omega]
      exact he'
    · have hb' : b < s.heap.objs.size := by
        rcases (show b = e ∨ b = it by simpa using hb) with z | z
        · rw [z]; exact hel
        · rw [z]; exact hil
      rw [upd_ne (Nat.ne_of_lt hb')]
      exact (hf b hb).1
  done := by
    intro X hP hw hK hc i pins s σ H E I hf st hg
    subst hP hw hK
    obtain ⟨⟨old, he⟩, hit, hne⟩ := st
    obtain ⟨xs, hq, hx⟩ := hg
    obtain ⟨its, rv, p, hz⟩ := I.tuple hq
    obtain ⟨f0, f1, f2, f3, f4, f5⟩ := hf it (by simp)
    have hl := rv.length
    have hT : s.TypeIs (.ref e) "enumerate" := ⟨_, he, rfl⟩
    have hend : its.toArray[i]? = none := by simp; omega
    unfold pyNext
    refine wpAny_bind (wpAny_attempt (wpAny_callSpecial?_slot (name := Str.ofString "__next__") hT F.slot_enumerate_next
      (wpAny_call_entry F.slot_enumerate_next hT F.entry_enumerate_next ?_ (F.args_enumerate_next_1 _))))
    show wpAny _ _ (field (.ref e) 2 >>= _) _ _ _
    refine wpAny_bind (wpAny_field he rfl (x := .ref it) rfl ?_)
    refine wpAny_bind (wpAny_nextOf_tuple_end (I.ok.hd hc) hit p hend fun h' x he' hx' => ?_)
    obtain ⟨o, ho, hco⟩ := hx'
    refine wpAny_bind (wpAny_isInstance (T := "StopIteration") (b := true) ⟨o, ho, hco⟩ isSubtype_stop ?_)
    exact wpAny_pure ⟨rfl, I.turned (t' := s.toks) (fun b o hb q => he' b o hb q) f0 f1 f3 f4 f5⟩
  self := fun A i s Q E st h => wpAny_pyIter_enum st.1.choose_spec h
def iEnumT (K : PySem.W.Frag) (ta : TA) : TI := fun σ H R => ta σ H fun vs H1 => ∃ a xs, vs = [.ref a] ∧ SqT K H1 a xs ∧ R (IteT K a) H1
theorem pi_enumT {X : Cx} {e : Expr} {ta : TA} {p pos tpos : Pos} {elts : List Expr} {kk : Nat} (hg : Gl X "enumerate") (hm : X.mg "enumerate" = none) (ha : PA X [e] ta) (hs : starEach [e] X.env = [(false, eval e X.env)] := by rfl) :
    PI X (.Tuple elts kk tpos) (.Call (.Name "enumerate" p) [e] [] pos) (iEnumT X.K ta) := by
  refine ⟨fun pins s σ H R I h => ?_⟩
  refine Call_ (ld_blt I hg hm boot_enumerate (PyProof.Rows.callWith_type1 (thn (ha.run pos pins s σ H _ I h) fun us s1 ⟨vs, H1, I1, r1, q1⟩ => ?_) hs rfl))
  obtain ⟨a, xs, ex, hq, q⟩ := q1
  subst ex
  cases r1 with
  | cons r rr =>
    cases rr
    cases r
    obtain ⟨its, rv, p', hz⟩ := I1.tuple hq
    have pT : s1.heap.IsTuple a its.toArray := p'
    refine enum1_begins (begins_tuple a its.toArray) pT fun h' he hit hk => wpAny_pyIter_enum he ?_
    have I2 : Inv X pins σ H1 { s1 with heap := h' } := I1.kept (t' := s1.toks) hk
    refine ⟨s1.heap.objs.size + 1, [s1.heap.objs.size + 1, s1.heap.objs.size], _, _, H1, rfl, I2, turn_enumT a (s1.heap.objs.size + 1) s1.heap.objs.size (Nat.ne_of_lt p'.lt), ⟨⟨.none, he⟩, ⟨_, hit, rfl, rfl⟩, Nat.succ_ne_self _⟩, fun b hb => ?_, q⟩
    have hle : s1.heap.objs.size ≤ b := by
      rcases (show b = s1.heap.objs.size + 1 ∨ b = s1.heap.objs.size by simpa using hb) with z | z
      · rw [z]; exact Nat.le_add_right _ _
      · rw [z]; exact Nat.le_refl _
    exact I1.fpOk hle (I1.hok.fresh hle)
/-! ### the next pair of a zip, whether its own tuple is out or not -/
abbrev IsZipG (h : Heap) (z TI TO : Addr) (f0 : Value) (f1 : Bool) : Prop :=
  h.get? z = some { cls := .type "zip", dict := none, data := .fields #[f0, .bool f1, .bool false, .ref TI, .ref TO], slots := #[] }
section
variable {prog : Program} {w : World} {A : Around} {E : Value → Shared → Prop} {s : Shared}
/-- the state of a zip: its own tuple is none, or some T that may be gone -/
def ZSt (h : Heap) (z TI TO : Addr) : Prop := IsZip h z TI TO .none ∨ ∃ (T : Addr) (f : Bool), IsZipHeld h z TI TO T f
theorem ZSt.at {h h' : Heap} {z TI TO : Addr} (x : ZSt h z TI TO) (k : ∀ o, h.get? z = some o → h'.get? z = some o) : ZSt h' z TI TO := by
  rcases x with x | ⟨T, f, x⟩
  · exact .inl (k _ x)
  · exact .inr ⟨T, f, k _ x⟩
theorem zfree_item {z TI TO i1 i2 l1 l2 : Addr} {k1 k2 : Nat} {xs ys : Array Value} {x y a b f0 : Value} {f1 : Bool} {Q : Value → Shared → Prop} (D : ZipApart z TI TO i1 i2 l1 l2) (hz : IsZipG s.heap z TI TO f0 f1)
    (free : ∀ Q : Bool → Shared → Prop, Q true s → wpAny (model prog w) A (Builtin.SmallTypes.ownedTupleIsFree (.ref z)) Q E s) (hTI : IsPair s.heap TI (.ref i1) (.ref i2)) (hTO : IsPair s.heap TO a b)
    (h1 : s.heap.IsListIter i1 l1 k1) (h2 : s.heap.IsListIter i2 l2 k2) (hl1 : s.heap.IsList l1 xs) (hl2 : s.heap.IsList l2 ys) (hx : xs[k1]? = some x) (hy : ys[k2]? = some y)
    (hQ : ∀ h', IsZip h' z TI TO (rawInt s.heap.objs.size) → IsPair h' TO x y → h'.IsListIter i1 l1 (k1 + 1) → h'.IsListIter i2 l2 (k2 + 1) → IsPair h' s.heap.objs.size x y → h'.objs.size = s.heap.objs.size + 1 →
      (∀ c o, c ≠ z → c ≠ TO → c ≠ i1 → c ≠ i2 → s.heap.get? c = some o → h'.get? c = some o) → Q (.ref s.heap.objs.size) { s with heap := h' }) :
    wpAny (model prog w) A (Builtin.«zip.__next__» ⟨[.ref z], []⟩) (fun fin s' => ∃ v, fin = .done (.ret v) ∧ Q v s') E s := by
  show wpAny _ _ (field (.ref z) 2 >>= _) _ _ _
  refine wpAny_bind (wpAny_field hz rfl (x := .bool false) rfl ?_)
  show wpAny _ _ (field (.ref z) 3 >>= _) _ _ _
  refine wpAny_bind (wpAny_field hz rfl (x := .ref TI) rfl (wpAny_bind (wpAny_seqItems hTI rfl ?_)))
  show wpAny _ _ (Builtin.SmallTypes.ownedTupleIsFree (.ref z) >>= _) _ _ _
  refine wpAny_bind (free _ ?_)
  simp only [if_true]
  refine wpAny_bind (wpAny_rule (wpAny_bind (wpAny_field hz rfl (x := .ref TO) rfl ?_)))
  refine wpAny_bind (wpAny_setField_rec hz (by simp) fun h₁ hz₁ hs₁ => wpAny_bind ?_)
  replace hz₁ : IsZipG h₁ z TI TO .ellipsis f1 := hz₁
  simp only [List.zipIdx_cons, List.zipIdx_nil, List.forIn_cons, List.forIn_nil]
  -- the first list
  refine wpAny_bind (wpAny_bind (wpAny_onRaise ?_))
  show wpAny _ _ (Builtin.SmallTypes.nextOf (.ref i1) >>= _) _ _ _
  refine wpAny_bind (wpAny_nextOf_list_item (h1.extBut hs₁.extBut D.i1z) (hl1.extBut hs₁.extBut D.l1z) hx fun h₂ g1 hs₂ => wpAny_pure ?_)
  have t2 : IsPair h₂ TO a b := hs₂.extBut _ _ D.TOi1 (hs₁.extBut _ _ D.TOz hTO)
  refine wpAny_bind (wpAny_seqItems t2 rfl (wpAny_bind (wpAny_updateSeq_pair t2 fun h₃ t3 hs₃ => wpAny_bind (wpAny_letGo (wpAny_pure ?_)))))
  replace t3 : IsPair h₃ TO x b := t3
  -- the second list
  refine wpAny_bind (wpAny_bind (wpAny_onRaise ?_))
  show wpAny _ _ (Builtin.SmallTypes.nextOf (.ref i2) >>= _) _ _ _
  have g2 : h₃.IsListIter i2 l2 k2 := ((h2.extBut hs₁.extBut D.i2z).extBut hs₂.extBut D.i12.symm).extBut hs₃.extBut D.TOi2.symm
  have m2 : h₃.IsList l2 ys := ((hl2.extBut hs₁.extBut D.l2z).extBut hs₂.extBut D.l2i1).extBut hs₃.extBut D.l2TO
  refine wpAny_bind (wpAny_nextOf_list_item g2 m2 hy fun h₄ g4 hs₄ => wpAny_pure ?_)
  have t4 : IsPair h₄ TO x b := hs₄.extBut _ _ D.TOi2 t3
  refine wpAny_bind (wpAny_seqItems t4 rfl (wpAny_bind (wpAny_updateSeq_pair t4 fun h₅ t5 hs₅ => wpAny_bind (wpAny_letGo (wpAny_pure (wpAny_pure ?_))))))
  replace t5 : IsPair h₅ TO x y := t5
  -- the pair
  refine wpAny_bind (wpAny_seqItems t5 rfl (wpAny_bind (wpAny_newTuple ?_)))
  have hsz : h₅.objs.size = s.heap.objs.size := by rw [hs₅.1, hs₄.1, hs₃.1, hs₂.1, hs₁.1]
  have z5 : IsZipG h₅ z TI TO .ellipsis f1 := hs₅.extBut _ _ D.TOz.symm (hs₄.extBut _ _ D.i2z.symm (hs₃.extBut _ _ D.TOz.symm (hs₂.extBut _ _ D.i1z.symm hz₁)))
  have k5 : ∀ c o, c ≠ z → c ≠ TO → c ≠ i1 → c ≠ i2 → s.heap.get? c = some o → h₅.get? c = some o := fun c o n1 n2 n3 n4 e =>
    hs₅.extBut _ _ n2 (hs₄.extBut _ _ n4 (hs₃.extBut _ _ n2 (hs₂.extBut _ _ n3 (hs₁.extBut _ _ n1 e))))
  have p1 : h₅.IsListIter i1 l1 (k1 + 1) := ((g1.extBut hs₃.extBut D.TOi1.symm).extBut hs₄.extBut D.i12).extBut hs₅.extBut D.TOi1.symm
  have p2 : h₅.IsListIter i2 l2 (k2 + 1) := g4.extBut hs₅.extBut D.TOi2.symm
  have zlt : z < h₅.objs.size := Heap.lt_size z5
  show wpAny _ _ (Builtin.SmallTypes.ownedTupleHandOut (.ref z) (.ref h₅.objs.size) >>= _) _ _ _
  refine wpAny_bind ?_
  unfold Builtin.SmallTypes.ownedTupleHandOut
  have z6 : IsZipG (h₅.push { cls := .type "tuple", data := .seq #[x, y] }) z TI TO .ellipsis f1 := Heap.get?_push_of_some _ z5
  refine wpAny_bind (wpAny_setField_rec z6 (by simp) fun h₇ z7 hs₇ => ?_)
  replace z7 : IsZipG h₇ z TI TO (rawInt h₅.objs.size) f1 := z7
  refine wpAny_setField_rec z7 (by simp) fun h₈ z8 hs₈ => ?_
  replace z8 : IsZip h₈ z TI TO (rawInt h₅.objs.size) := z8
  have up : ∀ c o, c ≠ z → h₅.get? c = some o → h₈.get? c = some o := fun c o n1 e => hs₈.extBut _ _ n1 (hs₇.extBut _ _ n1 (Heap.get?_push_of_some _ e))
  have T8 : IsPair h₈ h₅.objs.size x y := hs₈.extBut _ _ (Nat.ne_of_gt zlt) (hs₇.extBut _ _ (Nat.ne_of_gt zlt) (Heap.get?_push_size _ rfl))
  have s8 : h₈.objs.size = h₅.objs.size + 1 := by rw [hs₈.1, hs₇.1, Heap.size_push]
  rw [hsz] at z8 T8 s8
  refine wpAny_pure ⟨_, rfl, ?_⟩
  show Q (.ref h₅.objs.size) _
  rw [hsz]
  exact hQ h₈ z8 (up _ _ D.TOz t5) (p1.at fun o e => up _ o D.i1z e) (p2.at fun o e => up _ o D.i2z e) T8 s8 fun c o n1 n2 n3 n4 e => up c o n1 (k5 c o n1 n2 n3 n4 e)
theorem zfree_end {z TI TO i1 i2 l1 : Addr} {k1 : Nat} {xs : Array Value} {a b f0 : Value} {f1 : Bool} {Q : Fin → Shared → Prop} (hh : A.handled = none) (n1 : i1 ≠ z) (n2 : l1 ≠ z) (hz : IsZipG s.heap z TI TO f0 f1)
    (free : ∀ Q : Bool → Shared → Prop, Q true s → wpAny (model prog w) A (Builtin.SmallTypes.ownedTupleIsFree (.ref z)) Q E s) (hTI : IsPair s.heap TI (.ref i1) (.ref i2)) (hTO : IsPair s.heap TO a b)
    (h1 : s.heap.IsListIter i1 l1 k1) (hl1 : s.heap.IsList l1 xs) (hx : xs[k1]? = none)
    (hE : ∀ h' e, (∀ c o, c ≠ z → c ≠ i1 → s.heap.get? c = some o → h'.get? c = some o) → (∃ o, h'.get? e = some o ∧ o.cls = .type "StopIteration") → E (.ref e) { s with heap := h' }) :
    wpAny (model prog w) A (Builtin.«zip.__next__» ⟨[.ref z], []⟩) Q E s := by
  show wpAny _ _ (field (.ref z) 2 >>= _) _ _ _
  refine wpAny_bind (wpAny_field hz rfl (x := .bool false) rfl ?_)
  show wpAny _ _ (field (.ref z) 3 >>= _) _ _ _
  refine wpAny_bind (wpAny_field hz rfl (x := .ref TI) rfl (wpAny_bind (wpAny_seqItems hTI rfl ?_)))
  show wpAny _ _ (Builtin.SmallTypes.ownedTupleIsFree (.ref z) >>= _) _ _ _
  refine wpAny_bind (free _ ?_)
  simp only [if_true]
  refine wpAny_bind (wpAny_rule (wpAny_bind (wpAny_field hz rfl (x := .ref TO) rfl ?_)))
  refine wpAny_bind (wpAny_setField_rec hz (by simp) fun h₁ hz₁ hs₁ => wpAny_bind ?_)
  replace hz₁ : IsZipG h₁ z TI TO .ellipsis f1 := hz₁
  simp only [List.zipIdx_cons, List.zipIdx_nil, List.forIn_cons, List.forIn_nil]
  refine wpAny_bind (wpAny_bind (wpAny_onRaise ?_))
  show wpAny _ _ (Builtin.SmallTypes.nextOf (.ref i1) >>= _) _ _ _
  refine wpAny_bind (wpAny_nextOf_list_end hh (h1.extBut hs₁.extBut n1) (hl1.extBut hs₁.extBut n2) hx fun h₂ e hs₂ he => ?_)
  obtain ⟨oe, hoe, hce⟩ := he
  have z2 : IsZipG h₂ z TI TO .ellipsis f1 := hs₂ _ _ n1.symm hz₁
  have hez : e ≠ z := fun x => by
    subst x
    rw [z2] at hoe
    cases hoe
    simp at hce
  exact wpAny_setField_rec z2 (by simp) fun h₃ _ hs₃ => hE h₃ e (fun c o c1 c3 x => hs₃.extBut _ _ c1 (hs₂ _ _ c3 (hs₁.extBut _ _ c1 x))) ⟨oe, hs₃.extBut _ _ hez hoe, hce⟩
theorem free_none {z TI TO : Addr} (hz : IsZip s.heap z TI TO .none) : ∀ Q : Bool → Shared → Prop, Q true s → wpAny (model prog w) A (Builtin.SmallTypes.ownedTupleIsFree (.ref z)) Q E s := fun Q h => by
  unfold Builtin.SmallTypes.ownedTupleIsFree
  exact wpAny_bind (wpAny_field hz rfl (x := .none) rfl (wpAny_pure h))
theorem free_gone {z TI TO T : Addr} {f : Bool} (hz : IsZipHeld s.heap z TI TO T f) (hT : s.heap.get? T = none) : ∀ Q : Bool → Shared → Prop, Q true s → wpAny (model prog w) A (Builtin.SmallTypes.ownedTupleIsFree (.ref z)) Q E s := fun Q h => by
  unfold Builtin.SmallTypes.ownedTupleIsFree
  refine wpAny_bind (wpAny_field hz rfl (x := rawInt T) rfl ?_)
  show wpAny _ _ (loadIfAlive ((T : Int).toNat) >>= _) _ _ _
  rw [Int.toNat_natCast]
  have key : ∀ (k : Option Obj → Sem Bool), wpAny (model prog w) A (k none) Q E s → wpAny (model prog w) A (loadIfAlive T >>= k) Q E s := fun k hk => by
    have e : (loadIfAlive T >>= k) = .loadIfAlive T k := rfl
    rw [e]
    have e2 : k (s.heap.get? T) = k none := by rw [hT]
    intro Γ hΓ p
    have z := hk Γ hΓ p
    rw [Sem.wp_loadIfAlive, e2]
    exact z
  exact key _ (wpAny_pure h)
end
end Cs
set_option Elab.async false
set_option linter.all false
set_option maxRecDepth 100000
set_option maxHeartbeats 4000000
/-! enumerate over zip of two lists: the turn -/
namespace Cs
open PySem PySem.Spec PyProof.Rows L2
/-- a zip's own cells but its state -/
structure ZCells (h : Heap) (z TI TO i1 i2 l1 l2 : Addr) (k : Nat) : Prop where
  st : ZSt h z TI TO
  ti : IsPair h TI (.ref i1) (.ref i2)
  tO : ∃ a b, IsPair h TO a b
  h1 : h.IsListIter i1 l1 k
  h2 : h.IsListIter i2 l2 k
section
variable {prog : Program} {w : World} {A : Around} {E : Value → Shared → Prop} {s : Shared}
theorem ZSt.type {z TI TO : Addr} (x : ZSt s.heap z TI TO) : s.TypeIs (.ref z) "zip" := by
  rcases x with x | ⟨T, f, x⟩
  · exact ⟨_, x, rfl⟩
  · exact ⟨_, x, rfl⟩
theorem znext_item {z TI TO i1 i2 l1 l2 : Addr} {k : Nat} {xs ys : Array Value} {x y : Value} {Q : Value → Shared → Prop} (D : ZipApart z TI TO i1 i2 l1 l2) (Z : ZCells s.heap z TI TO i1 i2 l1 l2 k)
    (hl1 : s.heap.IsList l1 xs) (hl2 : s.heap.IsList l2 ys) (hx : xs[k]? = some x) (hy : ys[k]? = some y)
    (hQ : ∀ h', ZCells h' z TI TO i1 i2 l1 l2 (k + 1) → IsPair h' s.heap.objs.size x y → h'.objs.size = s.heap.objs.size + 1 →
      (∀ c o, c ≠ z → c ≠ TO → c ≠ i1 → c ≠ i2 → s.heap.get? c = some o → h'.get? c = some o) → Q (.ref s.heap.objs.size) { s with heap := h' }) :
    wpAny (model prog w) A (Builtin.«zip.__next__» ⟨[.ref z], []⟩) (fun fin s' => ∃ v, fin = .done (.ret v) ∧ Q v s') E s := by
  obtain ⟨a, b, hTO⟩ := Z.tO
  have viaFree : ∀ {f0 : Value} {f1 : Bool}, IsZipG s.heap z TI TO f0 f1 → (∀ Q : Bool → Shared → Prop, Q true s → wpAny (model prog w) A (Builtin.SmallTypes.ownedTupleIsFree (.ref z)) Q E s) →
      wpAny (model prog w) A (Builtin.«zip.__next__» ⟨[.ref z], []⟩) (fun fin s' => ∃ v, fin = .done (.ret v) ∧ Q v s') E s := fun hz fr =>
    zfree_item D hz fr Z.ti hTO Z.h1 Z.h2 hl1 hl2 hx hy fun h' q1 q2 q3 q4 q5 q6 q7 =>
      hQ h' ⟨.inr ⟨_, false, q1⟩, q7 _ _ D.TIz D.TITO D.TIi1 D.TIi2 Z.ti, ⟨_, _, q2⟩, q3, q4⟩ q5 q6 q7
  rcases Z.st with hz | ⟨T, f, hz⟩
  · exact viaFree hz (free_none hz)
  · cases hT : s.heap.get? T with
    | none => exact viaFree (f0 := rawInt T) (f1 := f) hz (free_gone hz hT)
    | some oT =>
      exact zip_next_item_held D hz hT Z.ti Z.h1 Z.h2 hl1 hl2 hx hy fun h' q1 q3 q4 q5 q6 q7 =>
        hQ h' ⟨.inr ⟨T, true, q1⟩, q7 _ _ D.TIz D.TIi1 D.TIi2 Z.ti, ⟨a, b, q7 _ _ D.TOz D.TOi1 D.TOi2 hTO⟩, q3, q4⟩ q5 q6 fun c o n1 n2 n3 n4 e => q7 c o n1 n3 n4 e
theorem znext_end {z TI TO i1 i2 l1 l2 : Addr} {k : Nat} {xs ys : Array Value} {Q : Fin → Shared → Prop} (hh : A.handled = none) (D : ZipApart z TI TO i1 i2 l1 l2) (Z : ZCells s.heap z TI TO i1 i2 l1 l2 k)
    (hl1 : s.heap.IsList l1 xs) (hl2 : s.heap.IsList l2 ys) (hx : xs[k]? = none)
    (hE : ∀ h' e, (∀ c o, c ≠ z → c ≠ i1 → c ≠ i2 → s.heap.get? c = some o → h'.get? c = some o) → (∃ o, h'.get? e = some o ∧ o.cls = .type "StopIteration") → E (.ref e) { s with heap := h' }) :
    wpAny (model prog w) A (Builtin.«zip.__next__» ⟨[.ref z], []⟩) Q E s := by
  obtain ⟨a, b, hTO⟩ := Z.tO
  rcases Z.st with hz | ⟨T, f, hz⟩
  · exact zfree_end hh D.i1z D.l1z hz (free_none hz) Z.ti hTO Z.h1 hl1 hx fun h' e q he => hE h' e (fun c o n1 n2 _ x => q c o n1 n2 x) he
  · cases hT : s.heap.get? T with
    | none => exact zfree_end (f0 := rawInt T) (f1 := f) hh D.i1z D.l1z hz (free_gone hz hT) Z.ti hTO Z.h1 hl1 hx fun h' e q he => hE h' e (fun c o n1 n2 _ x => q c o n1 n2 x) he
    | some oT => exact zip_next_end_held hh D hz hT Z.ti Z.h1 Z.h2 hl1 hl2 (.inl hx) hE
theorem enumZ_item {e z TI TO i1 i2 l1 l2 : Addr} {k : Nat} {c : Int} {xs ys : Array Value} {x y old : Value} {Q : Option Value → Shared → Prop} (D : ZipApart z TI TO i1 i2 l1 l2) (Z : ZCells s.heap z TI TO i1 i2 l1 l2 k) (he : IsEnum s.heap e z c old)
    (ne : e ≠ z ∧ e ≠ TO ∧ e ≠ i1 ∧ e ≠ i2 ∧ e ≠ TI) (hl1 : s.heap.IsList l1 xs) (hl2 : s.heap.IsList l2 ys) (hx : xs[k]? = some x) (hy : ys[k]? = some y)
    (hQ : ∀ h', IsEnumOut h' e z (c + 1) (.ref s.heap.objs.size) (s.heap.objs.size + 1) → ZCells h' z TI TO i1 i2 l1 l2 (k + 1) → IsPair h' s.heap.objs.size x y →
      h'.get? (s.heap.objs.size + 1) = some { cls := .type "tuple", data := .seq #[.int c s.toks, .ref s.heap.objs.size] } →
      (∀ b o, b ≠ e → b ≠ z → b ≠ TO → b ≠ i1 → b ≠ i2 → s.heap.get? b = some o → h'.get? b = some o) → Q (some (.ref (s.heap.objs.size + 1))) { s with heap := h', toks := s.toks + 1 }) :
    wpAny (model prog w) A (pyNext (.ref e)) Q E s := by
  obtain ⟨n1, n2, n3, n4, n5⟩ := ne
  have hT : s.TypeIs (.ref e) "enumerate" := ⟨_, he, rfl⟩
  have hZ : s.TypeIs (.ref z) "zip" := ZSt.type Z.st
  unfold pyNext
  refine wpAny_bind (wpAny_attempt (wpAny_callSpecial?_slot (name := Str.ofString "__next__") hT F.slot_enumerate_next (wpAny_call_entry F.slot_enumerate_next hT F.entry_enumerate_next ?_ (F.args_enumerate_next_1 _))))
  obtain ⟨hp, g, d, tk, os⟩ := s
  show wpAny _ _ (field (.ref e) 2 >>= _) _ _ _
  refine wpAny_bind (wpAny_field he rfl (x := .ref z) rfl ?_)
  refine wpAny_bind ?_
  unfold Builtin.SmallTypes.nextOf
  refine wpAny_bind (wpAny_callSpecial?_slot (name := Str.ofString "__next__") hZ F.slot_zip_next (wpAny_call_entry F.slot_zip_next hZ F.entry_zip_next ?_ (F.args_zip_next_1 _)))
  refine znext_item D Z hl1 hl2 hx hy fun h₁ Z1 p1 sz1 k1 => ?_
  refine wpAny_pure ?_
  have hel : e < hp.objs.size := Heap.lt_size he
  have e1 : IsEnum h₁ e z c old := k1 _ _ n1 n2 n3 n4 he
  show wpAny _ _ (field (.ref e) 3 >>= _) _ _ ⟨h₁, g, d, tk, os⟩
  refine wpAny_bind (wpAny_field e1 rfl (x := rawInt c) rfl ?_)
  show wpAny _ _ (field (.ref e) 4 >>= _) _ _ ⟨h₁, g, d, tk, os⟩
  refine wpAny_bind (wpAny_field e1 rfl (x := .none) rfl ?_)
  show wpAny _ _ (mkInt c >>= _) _ _ ⟨h₁, g, d, tk, os⟩
  refine wpAny_bind (wpAny_mkInt ?_)
  show wpAny _ _ (setField (.ref e) 3 (rawInt (c + 1)) >>= _) _ _ ⟨h₁, g, d, tk + 1, os⟩
  refine wpAny_bind (wpAny_setField_rec e1 (by simp) fun h₂ e2 s2 => ?_)
  replace e2 : IsEnum h₂ e z (c + 1) old := e2
  show wpAny _ _ (setField (.ref e) 4 .none >>= _) _ _ ⟨h₂, g, d, tk + 1, os⟩
  refine wpAny_bind (wpAny_setField_rec e2 (by simp) fun h₃ e3 s3 => ?_)
  replace e3 : IsEnum h₃ e z (c + 1) old := e3
  show wpAny _ _ (newTuple [.int c tk, .ref hp.objs.size] >>= _) _ _ ⟨h₃, g, d, tk + 1, os⟩
  refine wpAny_bind (wpAny_newTuple ?_)
  have sz3 : h₃.objs.size = hp.objs.size + 1 := by rw [s3.1, s2.1, sz1]
  have e4 : IsEnum (h₃.push { cls := .type "tuple", data := .seq #[.int c tk, .ref hp.objs.size] }) e z (c + 1) old := Heap.get?_push_of_some _ e3
  have up3 : ∀ b o, b ≠ e → h₁.get? b = some o → h₃.get? b = some o := fun b o hb x => s3.extBut b o hb (s2.extBut b o hb x)
  have t4 : (h₃.push { cls := .type "tuple", data := .seq #[.int c tk, .ref hp.objs.size] }).get? (hp.objs.size + 1) = some { cls := .type "tuple", data := .seq #[.int c tk, .ref hp.objs.size] } := by
    rw [← sz3]
    exact Heap.get?_push_size _ rfl
  have up4 : ∀ b o, b ≠ e → h₁.get? b = some o → (h₃.push { cls := .type "tuple", data := .seq #[.int c tk, .ref hp.objs.size] }).get? b = some o := fun b o hb x => Heap.get?_push_of_some _ (up3 b o hb x)
  generalize (h₃.push { cls := .type "tuple", data := .seq #[.int c tk, .ref hp.objs.size] }) = h₄ at e4 t4 up4
  show wpAny _ _ (Builtin.SmallTypes.ownedTupleIsFree (.ref e) >>= _) _ _ ⟨h₄, g, d, tk + 1, os⟩
  rw [sz3]
  refine wpAny_bind ?_
  unfold Builtin.SmallTypes.ownedTupleIsFree
  refine wpAny_bind (wpAny_field e4 rfl (x := .none) rfl (wpAny_pure ?_))
  simp only [if_true]
  refine wpAny_bind (wpAny_rule (wpAny_bind (wpAny_field e4 rfl (x := old) rfl (wpAny_bind (wpAny_setField_rec e4 (by simp) fun h₅ e5 s5 => ?_)))))
  replace e5 : IsEnum h₅ e z (c + 1) (.ref hp.objs.size) := e5
  show wpAny _ _ (Builtin.SmallTypes.ownedTupleHandOut (.ref e) (.ref (hp.objs.size + 1)) >>= _) _ _ ⟨h₅, g, d, tk + 1, os⟩
  refine wpAny_bind ?_
  unfold Builtin.SmallTypes.ownedTupleHandOut
  refine wpAny_bind (wpAny_setField_rec e5 (by simp) fun h₆ e6 s6 => ?_)
  replace e6 : IsEnumOut h₆ e z (c + 1) (.ref hp.objs.size) (hp.objs.size + 1) := e6
  refine wpAny_setField_rec e6 (by simp) fun h₇ e7 s7 => ?_
  replace e7 : IsEnumOut h₇ e z (c + 1) (.ref hp.objs.size) (hp.objs.size + 1) := e7
  have up7 : ∀ b o, b ≠ e → h₁.get? b = some o → h₇.get? b = some o := fun b o hb x => s7.extBut b o hb (s6.extBut b o hb (s5.extBut b o hb (up4 b o hb x)))
  have ne1 : hp.objs.size ≠ e := Nat.ne_of_gt hel
  have ne2 : hp.objs.size + 1 ≠ e := Nat.ne_of_gt (Nat.lt_succ_of_lt hel)
  refine wpAny_bind (wpAny_letGo (wpAny_pure ⟨_, rfl, wpAny_pure (hQ h₇ e7 ⟨Z1.st.at fun o x => up7 z o (Ne.symm n1) x, up7 _ _ (Ne.symm n5) Z1.ti, ?_, Z1.h1.at fun o x => up7 _ o (Ne.symm n3) x, Z1.h2.at fun o x => up7 _ o (Ne.symm n4) x⟩ (up7 _ _ ne1 p1) ?_ fun b o b1 b2 b3 b4 b5 x => up7 b o b1 (k1 b o b2 b3 b4 b5 x))⟩))
  · obtain ⟨a, b, q⟩ := Z1.tO
    exact ⟨a, b, up7 _ _ (Ne.symm n2) q⟩
  · exact s7.extBut _ _ ne2 (s6.extBut _ _ ne2 (s5.extBut _ _ ne2 t4))
theorem enumZ_end {e z TI TO i1 i2 l1 l2 : Addr} {k : Nat} {c : Int} {xs ys : Array Value} {old : Value} {Q : Option Value → Shared → Prop} (hh : A.handled = none) (D : ZipApart z TI TO i1 i2 l1 l2) (Z : ZCells s.heap z TI TO i1 i2 l1 l2 k) (he : IsEnum s.heap e z c old)
    (hl1 : s.heap.IsList l1 xs) (hl2 : s.heap.IsList l2 ys) (hx : xs[k]? = none)
    (hQ : ∀ h', (∀ b o, b ≠ z → b ≠ i1 → b ≠ i2 → s.heap.get? b = some o → h'.get? b = some o) → Q none { s with heap := h' }) :
    wpAny (model prog w) A (pyNext (.ref e)) Q E s := by
  have hT : s.TypeIs (.ref e) "enumerate" := ⟨_, he, rfl⟩
  have hZ : s.TypeIs (.ref z) "zip" := ZSt.type Z.st
  unfold pyNext
  refine wpAny_bind (wpAny_attempt (wpAny_callSpecial?_slot (name := Str.ofString "__next__") hT F.slot_enumerate_next (wpAny_call_entry F.slot_enumerate_next hT F.entry_enumerate_next ?_ (F.args_enumerate_next_1 _))))
  show wpAny _ _ (field (.ref e) 2 >>= _) _ _ _
  refine wpAny_bind (wpAny_field he rfl (x := .ref z) rfl ?_)
  refine wpAny_bind ?_
  unfold Builtin.SmallTypes.nextOf
  refine wpAny_bind (wpAny_callSpecial?_slot (name := Str.ofString "__next__") hZ F.slot_zip_next (wpAny_call_entry F.slot_zip_next hZ F.entry_zip_next ?_ (F.args_zip_next_1 _)))
  refine znext_end hh D Z hl1 hl2 hx fun h' x hk hx' => ?_
  obtain ⟨o, ho, hc⟩ := hx'
  refine wpAny_bind (wpAny_isInstance (T := "StopIteration") (b := true) ⟨o, ho, hc⟩ isSubtype_stop ?_)
  exact wpAny_pure (hQ _ hk)
end
/-- some records have turned, two new objects are laid -/
theorem inv_two {X : Cx} {pins : List (Addr × Obj)} {σ : L2.St} {H : Hp} {s : Shared} {h' : Heap} {t' : Nat} {ch : List Addr} {P T : Addr} {oP oT : HO} (I : Inv X pins σ H s) (k : ∀ b o, b ∉ ch → s.heap.get? b = some o → h'.get? b = some o)
    (hf : ∀ b ∈ ch, FpOk X pins H b) (hP : s.heap.objs.size ≤ P) (hT : s.heap.objs.size ≤ T) (nPT : P ≠ T) (newP : ObjOk X.prog X.w (upd (upd H P oP) T oT) h' P oP) (newT : ObjOk X.prog X.w (upd (upd H P oP) T oT) h' T oT) :
    Inv X pins σ (upd (upd H P oP) T oT) { s with heap := h', toks := t' } := by
  have hnP : H P = none := I.hok.fresh hP
  have hnT : H T = none := I.hok.fresh hT
  have up : ∀ {b : Addr} {u : HO}, H b = some u → (upd (upd H P oP) T oT) b = some u := fun {b u} e => by
    rw [upd_ne (ne_of_none e hnT), upd_ne (ne_of_none e hnP)]
    exact e
  have nit : ∀ b u, H b = some u → b ∉ ch := fun b u e z => by
    have q := (hf b z).1
    rw [q] at e
    cases e
  refine I.step (g' := s.gens) (d' := s.drawn) (ch := ch) (fun b hb => ⟨(hf b hb).2.2.2.1, (hf b hb).2.1, (hf b hb).2.2.2.2.1, (hf b hb).2.2.2.2.2⟩) (fun b o _ _ hc e _ => k b o hc e) (fun b o _ _ hc e _ => ⟨o.slots, k b o hc e⟩)
    (fun b o _ e n => ?_) (fun b o hc e => ⟨o, k b o hc e⟩) (fun b xs e => up e) (fun b o u e => up e) (fun b ps e => ⟨#[], by rw [up e]; simp⟩) (fun m hm => ?_) (fun b u e => ?_) I.bare
  · have l := Heap.lt_size e
    rw [upd_ne (Nat.ne_of_lt (Nat.lt_of_lt_of_le l hT)), upd_ne (Nat.ne_of_lt (Nat.lt_of_lt_of_le l hP))]
    exact n
  · obtain ⟨o, es, ep, ho, r⟩ := hm
    exact ⟨o, es, ep, k _ o (fun z => (hf _ z).2.1 rfl) ho, r⟩
  · by_cases h1 : b = T
    · subst h1
      rw [upd_same] at e
      cases e
      exact newT
    · rw [upd_ne h1] at e
      by_cases h2 : b = P
      · subst h2
        rw [upd_same] at e
        cases e
        exact newP
      · rw [upd_ne h2] at e
        refine (I.hok b u e).stay (fun c v hc q => k c v ?_ q) (fun c q => up q) fun c xs q => up q
        rcases hc with z | z
        · rw [z]
          exact nit b u e
        · exact nit c _ z
/-- enumerate(zip(..)) of the lists at a and b: at each turn two new tuples -/
def IteZ (K : PySem.W.Frag) (a b : Addr) : It :=
  ⟨fun i H => ∃ (xs ys : List V) (x y : V), SqL K H a xs ∧ SqL K H b ys ∧ xs[i]? = some x ∧ ys[i]? = some y,
    fun i H v H' => ∃ P T x y, v = .ref T ∧ H P = none ∧ H T = none ∧ P ≠ T ∧ H' = upd (upd H P (.tup [x, y])) T (.tup [.int (i : Nat), .ref P]) ∧ (∀ xs, SqL K H a xs → xs[i]? = some x) ∧ ∀ ys, SqL K H b ys → ys[i]? = some y,
    fun i H => ∃ xs ys : List V, SqL K H a xs ∧ SqL K H b ys ∧ xs.length ≤ i⟩
theorem turn_enumZ {P : Program} {w : World} {K : PySem.W.Frag} {elts : List Expr} {kk : Nat} {tpos : Pos} {a b e z TI TO i1 i2 : Addr} (D : ZipApart z TI TO i1 i2 a b) (ne : e ≠ z ∧ e ≠ TO ∧ e ≠ i1 ∧ e ≠ i2 ∧ e ≠ TI) :
    Turn P w K (.Tuple elts kk tpos) (IteZ K a b) [e, z, TI, TO, i1, i2] e (fun i h => (∃ old, IsEnum h e z ((i : Nat) : Int) old) ∧ ZCells h z TI TO i1 i2 a b i) where
  mem := by simp
  obj := fun i h st c hc => by
    obtain ⟨⟨old, he⟩, Z⟩ := st
    rcases (show c = e ∨ c = z ∨ c = TI ∨ c = TO ∨ c = i1 ∨ c = i2 by simpa using hc) with q | q | q | q | q | q
    · rw [q]; exact ⟨_, he, fun v q => nomatch q⟩
    · rw [q]
      rcases Z.st with x | ⟨T, f, x⟩
      · exact ⟨_, x, fun v q => nomatch q⟩
      · exact ⟨_, x, fun v q => nomatch q⟩
    · rw [q]; exact ⟨_, Z.ti, fun v q => nomatch q⟩
    · rw [q]
      obtain ⟨x, y, hO⟩ := Z.tO
      exact ⟨_, hO, fun v q => nomatch q⟩
    · rw [q]
      obtain ⟨o1, e1, _, d1⟩ := Z.h1
      exact ⟨o1, e1, fun v q => by rw [d1] at q; cases q⟩
    · rw [q]
      obtain ⟨o1, e1, _, d1⟩ := Z.h2
      exact ⟨o1, e1, fun v q => by rw [d1] at q; cases q⟩
  keep := fun i h h' st k => by
    obtain ⟨⟨old, he⟩, Z⟩ := st
    obtain ⟨x, y, hO⟩ := Z.tO
    exact ⟨⟨old, k e (by simp) _ he⟩, Z.st.at fun o q => k z (by simp) o q, k TI (by simp) _ Z.ti, ⟨x, y, k TO (by simp) _ hO⟩, Z.h1.at fun o q => k i1 (by simp) o q, Z.h2.at fun o q => k i2 (by simp) o q⟩
  item := by
    intro X hP hw hK hc i pins s σ H E I hf st hg
    subst hP hw hK
    obtain ⟨⟨old, he⟩, Z⟩ := st
    obtain ⟨xs, ys, x, y, hqx, hqy, hx, hy⟩ := hg
    obtain ⟨its, rv, p, _⟩ := I.list hqx
    obtain ⟨its2, rv2, p2, _⟩ := I.list hqy
    obtain ⟨u, hu, ru⟩ := rv.get hx
    obtain ⟨u2, hu2, ru2⟩ := rv2.get hy
    have hel : e < s.heap.objs.size := Heap.lt_size he
    refine enumZ_item D Z he ne p.isList p2.isList (x := u) (y := u2) (by simpa using hu) (by simpa using hu2) fun h' ho Z' hP' hT' hk => ?_
    refine ⟨_, rfl, wpAny_letOwnedTupleGo_enum (s := { s with heap := h', toks := s.toks + 1 }) ho fun h'' he' sb => ?_⟩
    have ne1 : s.heap.objs.size ≠ e := Nat.ne_of_gt hel
    have ne2 : s.heap.objs.size + 1 ≠ e := Nat.ne_of_gt (Nat.lt_succ_of_lt hel)
    have up : ∀ c o, c ≠ e → h'.get? c = some o → h''.get? c = some o := fun c o hc q => (sb.2 c hc).trans q
    have hP2 := up _ _ ne1 hP'
    have hT2 := up _ _ ne2 hT'
    have kk : ∀ c o, c ∉ [e, z, TI, TO, i1, i2] → s.heap.get? c = some o → h''.get? c = some o := fun c o hb q =>
      up c o (fun q' => hb (by simp [q'])) (hk c o (fun q' => hb (by simp [q'])) (fun q' => hb (by simp [q'])) (fun q' => hb (by simp [q'])) (fun q' => hb (by simp [q'])) (fun q' => hb (by simp [q'])) q)
    have nPT : s.heap.objs.size ≠ s.heap.objs.size + 1 := (Nat.succ_ne_self _).symm
    have I1 : Inv X pins σ (upd (upd H s.heap.objs.size (.tup [x, y])) (s.heap.objs.size + 1) (.tup [.int (i : Nat), .ref s.heap.objs.size])) { s with heap := h'', toks := s.toks + 1 } :=
      inv_two (ch := [e, z, TI, TO, i1, i2]) I kk hf (Nat.le_refl _) (Nat.le_succ _) nPT ⟨by show 2 ≤ sizeLine; decide, [u, u2], .cons ru (.cons ru2 .nil), ⟨_, hP2, rfl, _, rfl⟩⟩
        ⟨by show 2 ≤ sizeLine; decide, [.int i s.toks, .ref s.heap.objs.size], .cons ⟨_, rfl⟩ (.cons rfl .nil), ⟨_, hT2, rfl, _, rfl⟩⟩
    refine ⟨.ref (s.heap.objs.size + 1), _, I1, rfl, ⟨_, _, x, y, rfl, I.hok.fresh (Nat.le_refl _), I.hok.fresh (Nat.le_succ _), nPT, rfl, fun l hl => by rw [I.list_inj hl hqx]; exact hx, fun l hl => by rw [I.list_inj hl hqy]; exact hy⟩,
      ⟨⟨.ref s.heap.objs.size, ?_⟩, ?_⟩, fun b hb => ?_⟩
    · rw [show ((i + 1 : Nat) : Int) = (i : Int) + 1 by omega]
      exact he'
    · obtain ⟨q1, q2, q3, q4, q5⟩ := ne
      obtain ⟨x', y', hO⟩ := Z'.tO
      exact ⟨Z'.st.at fun o q => up _ o (Ne.symm q1) q, up _ _ (Ne.symm q5) Z'.ti, ⟨x', y', up _ _ (Ne.symm q2) hO⟩, Z'.h1.at fun o q => up _ o (Ne.symm q3) q, Z'.h2.at fun o q => up _ o (Ne.symm q4) q⟩
    · have hlt : b < s.heap.objs.size := by
        rcases (show b = e ∨ b = z ∨ b = TI ∨ b = TO ∨ b = i1 ∨ b = i2 by simpa using hb) with q | q | q | q | q | q
        · rw [q]; exact hel
        · rw [q]
          obtain ⟨o, ho', _⟩ := ZSt.type (s := s) Z.st
          exact Heap.lt_size ho'
        · rw [q]; exact Heap.lt_size Z.ti
        · rw [q]; obtain ⟨_, _, hO⟩ := Z.tO; exact Heap.lt_size hO
        · rw [q]; obtain ⟨_, e1, _⟩ := Z.h1; exact Heap.lt_size e1
        · rw [q]; obtain ⟨_, e1, _⟩ := Z.h2; exact Heap.lt_size e1
      rw [upd_ne (Nat.ne_of_lt (Nat.lt_succ_of_lt hlt)), upd_ne (Nat.ne_of_lt hlt)]
      exact (hf b hb).1
  done := by
    intro X hP hw hK hc i pins s σ H E I hf st hg
    subst hP hw hK
    obtain ⟨⟨old, he⟩, Z⟩ := st
    obtain ⟨xs, ys, hqx, hqy, hend⟩ := hg
    obtain ⟨its, rv, p, _⟩ := I.list hqx
    obtain ⟨its2, rv2, p2, _⟩ := I.list hqy
    have l1 := rv.length
    exact enumZ_end (I.ok.hd hc) D Z he p.isList p2.isList (by simp; omega) fun h' hk => ⟨rfl, I.turnedL (t' := s.toks) (ch := [e, z, TI, TO, i1, i2]) (fun c o hb q =>
      hk c o (fun q' => hb (by simp [q'])) (fun q' => hb (by simp [q'])) (fun q' => hb (by simp [q'])) q) hf⟩
  self := fun A i s Q E st h => wpAny_pyIter_enum st.1.choose_spec h
theorem walk_enumZ {K : PySem.W.Frag} {a b : Addr} {xs ys : List V} (hl : xs.length = ys.length) : Walk (IteZ K a b) xs.length (fun H => SqL K H a xs ∧ SqL K H b ys)
    (fun i H v H' => ∃ P T x y, v = .ref T ∧ H P = none ∧ H T = none ∧ P ≠ T ∧ H' = upd (upd H P (.tup [x, y])) T (.tup [.int (i : Nat), .ref P]) ∧ xs[i]? = some x ∧ ys[i]? = some y) := by
  refine ⟨fun i _ hi q => ?_, fun _ q => ⟨xs, ys, q.1, q.2, Nat.le_refl _⟩, fun i H v H' _ q y => ?_⟩
  · have h2 : i < ys.length := by omega
    exact ⟨xs, ys, xs[i], ys[i], q.1, q.2, by simp [hi], by simp [h2]⟩
  · obtain ⟨P, T, x, y, h1, h2, h3, h4, h5, h6, h7⟩ := y
    exact ⟨P, T, x, y, h1, h2, h3, h4, h5, h6 xs q.1, h7 ys q.2⟩
def iEnumZ (K : PySem.W.Frag) (ta : TA) : TI := fun σ H R => ta σ H fun vs H1 => ∃ a b xs ys, vs = [.ref a, .ref b] ∧ SqL K H1 a xs ∧ SqL K H1 b ys ∧ R (IteZ K a b) H1
theorem pi_enumZ {X : Cx} {e e2 : Expr} {ta : TA} {p p2 pos pos2 tpos : Pos} {elts : List Expr} {kk : Nat} (hg : Gl X "enumerate") (hm : X.mg "enumerate" = none) (hg2 : Gl X "zip") (hm2 : X.mg "zip" = none) (ha : PA X [e, e2] ta)
    (hs : starEach [e, e2] X.env = (false, eval e X.env) :: starEach [e2] X.env := by rfl) (hpl : (backTo pos (starEach [e2] X.env)).any (·.1) = false := by rfl)
    (hs2 : starEach [.Call (.Name "zip" p2) [e, e2] [] pos] X.env = [(false, eval (.Call (.Name "zip" p2) [e, e2] [] pos) X.env)] := by rfl) :
    PI X (.Tuple elts kk tpos) (.Call (.Name "enumerate" p) [.Call (.Name "zip" p2) [e, e2] [] pos] [] pos2) (iEnumZ X.K ta) := by
  refine ⟨fun pins s σ H R I h => ?_⟩
  refine Call_ (ld_blt I hg hm boot_enumerate (PyProof.Rows.callWith_type1 ?_ hs2 rfl))
  rw [hs2]
  show wpAny _ _ (spliced [(false, eval (.Call (.Name "zip" p2) [e, e2] [] pos) X.env)]) _ _ s
  refine Calls.spliced_cons ?_
  refine Call_ (ld_blt I hg2 hm2 PyProof.Rows.boot_zip (PyProof.Rows.callWith_type1 (thn (ha.run pos pins s σ H _ I h) fun us s1 ⟨vs, H1, I1, r1, q1⟩ => ?_) hs hpl))
  obtain ⟨a, b, xs, ys, ex, hqx, hqy, q⟩ := q1
  subst ex
  cases r1 with
  | cons r rr =>
    cases rr with
    | cons r' rr =>
      cases rr
      cases r
      cases r'
      obtain ⟨its, rv, l1, _⟩ := I1.list hqx
      obtain ⟨its2, rv2, l2, _⟩ := I1.list hqy
      refine call_zip_2 l1.isList l2.isList fun h' hz hTI hTO h1 h2 hsz hk => ?_
      refine Calls.spliced_nil ?_
      refine enumZ_begins (s := { s1 with heap := h' }) hz fun h'' he hk2 => wpAny_pyIter_enum he ?_
      have I2 : Inv X pins σ H1 { s1 with heap := h'' } := I1.kept (t' := s1.toks) fun c o x => hk2 _ _ (hk _ _ x)
      have D := PySem.W.ktu_apart s1.heap.objs.size a b l1.lt l2.lt
      have n5 : h'.objs.size = s1.heap.objs.size + 5 := hsz
      have ee : ({ s1 with heap := h' } : Shared).heap.objs.size = s1.heap.objs.size + 5 := n5
      have o5 : ∀ N j : Nat, j < 5 → N + 5 ≠ N + j := fun N j hj => by omega
      rw [ee] at he ⊢
      refine ⟨_, [s1.heap.objs.size + 5, s1.heap.objs.size + 4, s1.heap.objs.size + 2, s1.heap.objs.size + 3, s1.heap.objs.size, s1.heap.objs.size + 1], _, _, H1, rfl, I2,
        turn_enumZ D ⟨o5 _ 4 (by decide), o5 _ 3 (by decide), o5 _ 0 (by decide), o5 _ 1 (by decide), o5 _ 2 (by decide)⟩,
        ⟨⟨.none, he⟩, (ZSt.at (.inl hz) fun o x => hk2 _ _ x), hk2 _ _ hTI, ⟨_, _, hk2 _ _ hTO⟩, h1.at fun o x => hk2 _ _ x, h2.at fun o x => hk2 _ _ x⟩, fun c hcm => ?_, q⟩
      have hle : s1.heap.objs.size ≤ c := by
        have e' : c = s1.heap.objs.size + 5 ∨ c = s1.heap.objs.size + 4 ∨ c = s1.heap.objs.size + 2 ∨ c = s1.heap.objs.size + 3 ∨ c = s1.heap.objs.size ∨ c = s1.heap.objs.size + 1 := by simpa using hcm
        rcases e' with z | z | z | z | z | z
        · rw [z]; exact Nat.le_add_right _ _
        · rw [z]; exact Nat.le_add_right _ _
        · rw [z]; exact Nat.le_add_right _ _
        · rw [z]; exact Nat.le_add_right _ _
        · rw [z]; exact Nat.le_refl _
        · rw [z]; exact Nat.le_add_right _ _
      exact I1.fpOk hle (I1.hok.fresh hle)
end Cs
set_option Elab.async false
set_option linter.all false
set_option maxRecDepth 100000
set_option maxHeartbeats 4000000
/-! begun -/
namespace Cs
open PySem PySem.Spec PyProof.Rows L2
def bSign (b : Rat) : Rat := if b < 0 then -1 else 1
def unitRow (m i : Nat) (s : Rat) : List Rat := (List.range m).map fun j => if j = i then s else 0
/-- a row of the first frame -/
def bRow (m i : Nat) (row : List Rat) (b : Rat) : List Rat := bSign b * b :: (row.map (bSign b * ·) ++ (unitRow m i (bSign b) ++ unitRow m i 1))
def mBegun (numbers : List (List Rat)) (bounds : List Rat) : List (List Rat) := (numbers.zip bounds).mapIdx fun i rb => bRow numbers.length i rb.1 rb.2
theorem sz_bSign (b : Rat) (n : Nat) (hn : 1 ≤ n) : Sz n (bSign b) := by
  have h : 2 ^ 1 ≤ 2 ^ n := Nat.pow_le_pow_right (by decide) hn
  unfold bSign
  split
  · exact ⟨Nat.lt_of_lt_of_le (by decide) h, Nat.lt_of_lt_of_le (by decide) h⟩
  · exact ⟨Nat.lt_of_lt_of_le (by decide) h, Nat.lt_of_lt_of_le (by decide) h⟩
section
variable {P : Program} {w : World} {K : PySem.W.Frag} {mg : Str → Option Value} {base : Heap}
abbrev sBegun : Stmt := topS 48
abbrev nBegun : List Str := ["numbers", "bounds", "many", "rows", "place", "row", "bound", "sign", "spare", "fill", "index", "part"]
theorem scBegun : FnScope nBegun ["numbers", "bounds"] (defScope sBegun) := ⟨rfl, rfl, rfl, by decide +kernel, rfl, by decide +kernel, by decide +kernel⟩
def spBegun (K : PySem.W.Frag) : Sp := fun vs H Q _ => ∃ (X : List Addr) (vn vb : V) (numbers : List (List Rat)) (bounds : List Rat), vs = [vn, vb] ∧ Xin X H ∧ Dp K (cutH X H) vn (fRows numbers) ∧ Dp K (cutH X H) vb (fRow bounds) ∧
  numbers.length = bounds.length ∧ numbers.length ≤ 300 ∧ (∀ r ∈ numbers, r.length ≤ 300 ∧ SzAll 400 r) ∧ SzAll 400 bounds ∧ ∀ H' v, Same H H' → Dp K (cutH X H') v (fRows (mBegun numbers bounds)) → Q v H'
/-- a row of units: one comprehension -/
theorem unit_d {m i j : Nat} {s : Rat} {d : PyData} (hd : (frs (unitRow m i s))[j]? = some d) : j < m ∧ d = fr (if j = i then s else 0) := by
  unfold frs unitRow at hd
  rw [List.getElem?_map, List.getElem?_map] at hd
  by_cases h : j < m
  · rw [List.getElem?_range h] at hd
    exact ⟨h, (Option.some.inj hd).symm⟩
  · rw [List.getElem?_eq_none (by simpa using h)] at hd
    cases hd
theorem unit_len (m i : Nat) (s : Rat) : (frs (unitRow m i s)).length = m := by
  rw [frs_len, unitRow, List.length_map, List.length_range]
theorem sign_read {i : Nat} {σ : L2.St} {H : Hp} {Q : VK} {x : V} {b : Rat} (hx : σ[i]? = some (some x)) (hb : Fr K H x b) (k : ∀ H' v, Same H H' → Fr K H' v (bSign b) → Q v H') :
    tIf (tTest (tOp (rI0 fun i j => V.bl (decide (i < j))) (tOp (rNum K) (tVar i) (tC (.int 0))) (tC (.int 0)))) (tTup (tCons (tOp (rI0 fun i j => V.int (i - j)) (tC (.int 0)) (tC (.int 1))) (tCons (tC (.int 1)) tNil))) (tCst K 1) σ H Q := by
  refine ⟨_, hx, b, hb, rfl, _, _, rfl, rfl, _, rfl, ite2 (fun e => ?_) (fun e => ?_)⟩
  · have h := num_neg.mp (of_decide_eq_true e)
    refine ⟨_, _, rfl, rfl, (by show 2 ≤ sizeLine; decide), fun p hp => k _ _ (Same.new hp) ?_⟩
    unfold bSign
    rw [if_pos h]
    exact fr_new rfl rfl
  · have h : ¬ b < 0 := fun z => e (decide_eq_true (num_neg.mpr z))
    intro v hv
    refine k _ _ (Same.refl _) ?_
    unfold bSign
    rw [if_neg h]
    exact hv
theorem c_begun (D : DefAt K mg "begun" sBegun ["numbers", "bounds"]) (T : Cal P w K mg base 3 "times" ["one", "other"] (spTwo K (· * ·))) (me : mg "enumerate" = none) (mz : mg "zip" = none) (ml : mg "len" = none) (mr : mg "range" = none) (Z : Cst K mg "ZERO" 0) (O : Cst K mg "ONE" 1) :
    Cal P w K mg base 4 "begun" ["numbers", "bounds"] (spBegun K) := by
  refine D.cal fun f fd F => ?_
  refine F.ok scBegun (fun vs H Q E h => ?_) (fun cdv A outer s H vs Q E hr h => ?_)
  · obtain ⟨X, vn, vb, numbers, bounds, rfl, _⟩ := h
    rfl
  · obtain ⟨X, vn, vb, numbers, bounds, rfl, hX, hn, hb, hlen, hsm, hrow, hzb, q⟩ := h
    refine ⟨_, pss_cons (ps_par (i := 2) (j := 3) rfl scBegun.nd rfl rfl (by decide) rfl rfl (pa_cons (pe_callB call_len_seq (by rfl) ml PySem.boot_len (pa_cons (pv 0) pa_nil)) (pa_cons (pe_lst pa_nil) pa_nil)) (by rfl))
      (pss_cons (ps_for PassesOwn.never rfl (pi_enumZ (by rfl) me (by rfl) mz (pa_cons (pv 0) (pa_cons (pv 1) pa_nil)))
          (pg_tup rfl (pgs_cons (pg_name (i := 4) scBegun.nd rfl (.inr rfl)) (pgs_cons (pg_tup rfl (pgs_cons (pg_name (i := 5) scBegun.nd rfl (.inl rfl)) (pgs_cons (pg_name (i := 6) scBegun.nd rfl (.inl rfl)) pgs_nil))) pgs_nil)))
        (pss_cons (ps_set (i := 7) scBegun.nd rfl (.inr rfl) (pe_ifExp (pt_cmpR op_lt (pe_num K 6) pe_int (nomark _)) (pe_tup (pa_cons (pe_op op_sub pe_int pe_int) (pa_cons pe_int pa_nil))) (pe_cst O)))
        (pss_cons (ps_setLc (i := 8) (own := [("index", 10)]) (g := gName 10) (tt := tYes) rfl scBegun.nd rfl rfl (sw_true rfl rfl rfl (by decide +kernel)) (pi_range1 (by rfl) mr (pa_cons (pv 2) pa_nil))
          (blkOk_by (own := [("index", 10)]) (N := nBegun) (sc := defScope sBegun) (by decide +kernel)) (fun _ _ _ _ _ => pg_name (i := 10) scBegun.nd rfl (.inl rfl)) (fun _ _ _ _ _ => pts_nil)
          (fun _ _ _ _ _ => pe_ifExp (pt_cmpR op_eq (pv 10) (pv 4) (nomark _)) (pv 7) (pe_cst Z)))
        (pss_cons (ps_setLc (i := 9) (own := [("index", 10)]) (g := gName 10) (tt := tYes) rfl scBegun.nd rfl rfl (sw_true rfl rfl rfl (by decide +kernel)) (pi_range1 (by rfl) mr (pa_cons (pv 2) pa_nil))
          (blkOk_by (own := [("index", 10)]) (N := nBegun) (sc := defScope sBegun) (by decide +kernel)) (fun _ _ _ _ _ => pg_name (i := 10) scBegun.nd rfl (.inl rfl)) (fun _ _ _ _ _ => pts_nil)
          (fun _ _ _ _ _ => pe_ifExp (pt_cmpR op_eq (pv 10) (pv 4) (nomark _)) (pe_cst O) (pe_cst Z)))
        (pss_one (ps_expr (pe_bm PySem.F.plainAttrs_list PySem.F.slot_list_append PySem.F.type_list_append mt_append (pv 3) (pa_cons (pe_lst (pa_cons (pe_cal T hr (pa_cons (pv 7) (pa_cons (pv 6) pa_nil)))
          (StX.pa_star (pe_lc (own := [("part", 11)]) (g := gName 11) (tt := tYes) rfl scBegun.nd (pi_list (pv 5)) (blkOk_by (own := [("part", 11)]) (N := nBegun) (sc := defScope sBegun) (by decide +kernel))
            (fun _ _ _ _ _ => pg_name (i := 11) scBegun.nd rfl (.inl rfl)) (fun _ _ _ _ _ => pts_nil) (fun _ _ _ _ _ => pe_cal T hr (pa_cons (pv 7) (pa_cons (pv 11) pa_nil))))
            (StX.pa_star (pv 8) (StX.pa_star (pv 9) pa_nil))))) pa_nil))))))))
      (pss_one (ps_ret (pv 3)))), ?_⟩
    obtain ⟨an, ns, rfl, hsn, hdn⟩ := hn.list
    obtain ⟨ab, bs, rfl, hsb, hdb⟩ := hb.list
    have lns : ns.length = numbers.length := by rw [hdn.length, List.length_map]
    have lbs : bs.length = bounds.length := by rw [hdb.length, frs_len]
    refine ⟨_, rfl, an, ns, rfl, .inl (cut_same.seq hsn), Nat.zero_le _, fun L hL => ⟨_, _, rfl, ?_⟩⟩
    have s0 : Same H (upd H L (.lst [])) := Same.new hL
    have nLX : L ∉ X := hX.new hL
    refine ⟨_, rfl, _, rfl, an, ab, ns, bs, rfl, s0.seq (cut_same.seq hsn), s0.seq (cut_same.seq hsb), ?_⟩
    have keep0 : ∀ {H2 : Hp}, (∀ c o, H c = some o → H2 c = some o) → Same H H2 := fun h => h
    refine for_it (walk_enumZ (xs := ns) (ys := bs) (by omega)) (fun i σ H2 => ∃ acc f4 f5 f6 f7 f8 f9, σ = [some (.ref an), some (.ref ab), some (.int (numbers.length : Nat)), some (.ref L), f4, f5, f6, f7, f8, f9, none, none] ∧ Same H H2 ∧ H2 L = some (.lst acc) ∧
        DpAll K (cutH (L :: X) H2) acc (((mBegun numbers bounds).take i).map fRow)) ⟨[], none, none, none, none, none, none, by rw [lns]; rfl, s0, upd_same, .nil⟩ (fun i σ H2 _ ⟨_, _, _, _, _, _, _, _, s2, _⟩ => ⟨s2.seq (cut_same.seq hsn), s2.seq (cut_same.seq hsb)⟩) ?_ ?_
    · rintro i v σ H2 H3 hi ⟨acc, f4, f5, f6, f7, f8, f9, rfl, s2, eL, hacc⟩ ⟨P1, T1, x, y, rfl, nP, nT, nPT, rfl, ex, ey⟩
      obtain ⟨row, er, hrw⟩ := rows_at hdn ex
      obtain ⟨bd, eb, hbd⟩ := frs_at hdb ey
      have hr2 := hrow row (List.mem_of_getElem? er)
      have zb := hzb bd (List.mem_of_getElem? eb)
      have sP : Same H2 (upd H2 P1 (.tup [x, y])) := Same.new nP
      have sT : Same (upd H2 P1 (.tup [x, y])) (upd (upd H2 P1 (.tup [x, y])) T1 (.tup [.int (i : Nat), .ref P1])) := Same.new (by rw [upd_ne nPT.symm]; exact nT)
      have s23 := sP.trans sT
      have eP : (upd (upd H2 P1 (.tup [x, y])) T1 (.tup [.int (i : Nat), .ref P1])) P1 = some (.tup [x, y]) := by rw [upd_ne nPT, upd_same]
      refine ⟨T1, _, rfl, .inl (.inl upd_same), rfl, _, _, rfl, _, _, rfl, P1, _, rfl, .inl (.inl eP), rfl, x, _, rfl, y, _, rfl, rfl, rfl, ?_⟩
      generalize (upd (upd H2 P1 (.tup [x, y])) T1 (.tup [.int (i : Nat), .ref P1])) = H3 at s23
      have s3 := s2.trans s23
      have hX3 : Xin (L :: X) H3 := (hX.same s3).cons (s23 _ _ eL)
      have sX : Same (cutH X H) (cutH (L :: X) H3) := fun b o h => by
        obtain ⟨h1, h2⟩ := cut_at h
        refine cut_mk (s3 _ _ h1) fun hb => ?_
        rcases List.mem_cons.mp hb with rfl | hb
        · rw [hL] at h1
          cases h1
        · exact h2 hb
      -- sign
      have hx1 := hrw.same sX
      have hb1 := hbd.same (sX.trans cut_same)
      refine sign_read rfl hb1 fun H4 vs s4 hvs => ?_
      have hi3 : i < numbers.length := by omega
      have zs : Sz 900 (bSign bd) := sz_bSign bd 900 (by decide)
      -- spare
      refine ⟨_, rfl, (numbers.length : Nat), rfl, by omega, by omega, fun D1 hD1 => ?_⟩
      refine lc_map (K := K) walk_rangeN (L :: X) (frs (unitRow numbers.length i (bSign bd))) (hX3.same s4) hD1 (by rw [unit_len]; omega) (by omega) (fun _ _ => trivial) ?_ fun H5 s5 ho5 => ?_
      · rintro j v H5 H6 d Q2 hd s5 sc hX5 ⟨rfl, rfl⟩ k
        obtain ⟨hj, rfl⟩ := unit_d hd
        refine ⟨rfl, ?_⟩
        refine ⟨_, rfl, _, rfl, rfl, _, rfl, ite2 (fun e => ?_) (fun e => ?_)⟩
        · have e1 : j = i := by
            have := V.int.inj (of_decide_eq_true e)
            omega
          refine ⟨_, rfl, k _ _ (Same.refl _) ?_⟩
          rw [if_pos e1]
          exact ((hvs.same s5).cut hX5).dp
        · have e1 : ¬ j = i := fun z => e (by rw [z]; exact decide_eq_true rfl)
          intro v hv
          refine k _ _ (Same.refl _) ?_
          rw [if_neg e1]
          exact (hv.cut hX5).dp
      -- fill
      refine ⟨_, rfl, (numbers.length : Nat), rfl, by omega, by omega, fun D2 hD2 => ?_⟩
      refine lc_map (K := K) walk_rangeN (L :: X) (frs (unitRow numbers.length i 1)) (hX3.same (s4.trans s5)) hD2 (by rw [unit_len]; omega) (by omega) (fun _ _ => trivial) ?_ fun H6 s6 ho6 => ?_
      · rintro j v H6 H7 d Q2 hd s6 sc hX6 ⟨rfl, rfl⟩ k
        obtain ⟨hj, rfl⟩ := unit_d hd
        refine ⟨rfl, ?_⟩
        refine ⟨_, rfl, _, rfl, rfl, _, rfl, ite2 (fun e => ?_) (fun e => ?_)⟩
        · have e1 : j = i := by
            have := V.int.inj (of_decide_eq_true e)
            omega
          intro v hv
          refine k _ _ (Same.refl _) ?_
          rw [if_pos e1]
          exact (hv.cut hX6).dp
        · have e1 : ¬ j = i := fun z => e (by rw [z]; exact decide_eq_true rfl)
          intro v hv
          refine k _ _ (Same.refl _) ?_
          rw [if_neg e1]
          exact (hv.cut hX6).dp
      -- rows.append([times(sign, bound), *.., *.., *..])
      have s36 : Same H3 H6 := s4.trans (s5.trans s6)
      have hX6 : Xin (L :: X) H6 := hX3.same s36
      have eL6 : H6 L = some (.lst acc) := s36 _ _ (s23 _ _ eL)
      refine ⟨_, rfl, .inl ⟨rfl, _, .inl (.inl eL6)⟩, ?_⟩
      refine ⟨_, rfl, _, rfl, vs, y, bSign bd, bd, rfl, hvs.same (s5.trans s6), hb1.same s36, zs.mono (by decide), zb.mono (by decide), fun H7 v7 s7 hv7 => ?_⟩
      obtain ⟨aw, ws, rfl, hsw, hdw⟩ := hx1.list
      have lws : ws.length = row.length := by rw [hdw.length, frs_len]
      have s37 := s36.trans s7
      refine ⟨_, rfl, aw, rfl, ⟨_, (cut_same.trans s37).seq hsw⟩, fun D3 hD3 => ?_⟩
      refine lc_map (K := K) walk_list (L :: X) (frs (row.map (bSign bd * ·))) (hX3.same s37) hD3 (by rw [frs_len, List.length_map]; omega) (by omega) (fun H8 s8 => (cut_same.trans (s37.trans s8)).seq hsw) ?_ fun H8 s8 ho8 => ?_
      · rintro j v H8 H9 d Q2 hd s8 sc hX8 ⟨rfl, ev⟩ k
        obtain ⟨q1, eq1, hq1⟩ := frs_at hdw ev
        have e : d = fr (bSign bd * q1) := by
          unfold frs at hd
          rw [List.getElem?_map, List.getElem?_map, eq1] at hd
          exact (Option.some.inj hd).symm
        subst e
        refine ⟨rfl, ?_⟩
        refine ⟨_, rfl, _, rfl, vs, v, bSign bd, q1, rfl, hvs.same (s5.trans (s6.trans (s7.trans s8))), hq1.same (cut_same.trans (s37.trans s8)), zs.mono (by decide), (hr2.2 q1 (List.mem_of_getElem? eq1)).mono (by decide), fun H10 v10 s10 hv10 => ?_⟩
        exact k _ _ s10 (hv10.cut (hX8.same s10)).dp
      · obtain ⟨a8, xs8, ea8, hs8, hd8⟩ := ho8.list
        cases ea8
        obtain ⟨a5, xs5, ea5, hs5, hd5⟩ := ho5.list
        cases ea5
        obtain ⟨a6, xs6, ea6, hs6, hd6⟩ := ho6.list
        cases ea6
        have sc5 := same_cut (X := L :: X) (s6.trans (s7.trans s8))
        have sc6 := same_cut (X := L :: X) (s7.trans s8)
        refine ⟨_, xs8, rfl, .inr (cut_same.seq hs8), ?_⟩
        refine ⟨_, rfl, _, xs5, rfl, .inr ((sc5.trans cut_same).seq hs5), _, rfl, _, xs6, rfl, .inr ((sc6.trans cut_same).seq hs6), ?_⟩
        have l8 : xs8.length = row.length := by rw [hd8.length, frs_len, List.length_map]
        have l5 : xs5.length = numbers.length := by rw [hd5.length, unit_len]
        have l6 : xs6.length = numbers.length := by rw [hd6.length, unit_len]
        refine ⟨?_, fun D4 hD4 => ?_⟩
        · rw [List.length_cons, List.length_append, List.length_append, List.length_append, l8, l5, l6]
          have : (row.length + (numbers.length + (numbers.length + ([] : List V).length))) + 1 ≤ 1000 := by simp; omega
          exact Nat.le_of_lt (small1000 this)
        · have s9 := s8.trans (Same.new (o := .lst (v7 :: (xs8 ++ (xs5 ++ (xs6 ++ [])))) ) hD4)
          have s39 := s37.trans s9
          have hX9 : Xin (L :: X) _ := hX3.same s39
          have nL4 : D4 ∉ L :: X := (hX3.same (s37.trans s8)).new hD4
          have nL : L ≠ D4 := fun z => nL4 (by rw [← z]; exact List.mem_cons_self)
          have eL9 := s39 _ _ (s23 _ _ eL)
          have hla : acc.length < 1000 := by
            rw [hacc.length, List.length_map, List.length_take]
            omega
          refine ⟨L, acc, _, rfl, rfl, eL9, small1000 (Nat.le_of_lt hla), ?_⟩
          have newRow : Dp K (cutH (L :: X) (upd H8 D4 (.lst (v7 :: (xs8 ++ (xs5 ++ (xs6 ++ []))))))) (.ref D4) (fRow (bRow numbers.length i row bd)) := by
            refine .lst (.inl (.inl (cut_upd nL4))) ?_
            have sn := same_cut (X := L :: X) (Same.new (o := .lst (v7 :: (xs8 ++ (xs5 ++ (xs6 ++ [])))) ) hD4)
            have e : frs (bRow numbers.length i row bd) = fr (bSign bd * bd) :: (frs (row.map (bSign bd * ·)) ++ (frs (unitRow numbers.length i (bSign bd)) ++ (frs (unitRow numbers.length i 1) ++ []))) := by
              unfold bRow frs
              rw [List.map_cons, List.map_append, List.map_append, List.append_nil]
            rw [e]
            refine .cons ?_ (((hd8.same sn)).append ((hd5.same (sc5.trans sn)).append ((hd6.same (sc6.trans sn)).append .nil)))
            exact ((hv7.same s9).cut hX9).dp
          have er2 : (mBegun numbers bounds)[i]? = some (bRow numbers.length i row bd) := by
            unfold mBegun
            rw [List.getElem?_mapIdx]
            have : (numbers.zip bounds)[i]? = some (row, bd) := by
              rw [List.getElem?_zip_eq_some]
              exact ⟨er, eb⟩
            rw [this]
            rfl
          refine ⟨acc ++ [.ref D4], _, _, _, _, _, _, rfl, ?_, upd_same, ?_⟩
          · intro b o e
            rw [upd_ne (ne_of_none e hL)]
            exact s39 _ _ (s3 b o e)
          · rw [cut_in List.mem_cons_self, List.take_add_one, er2, List.map_append]
            exact (hacc.same (same_cut (s23.trans s39))).append (.cons newRow .nil)
    · rintro σ H2 ⟨acc, f4, f5, f6, f7, f8, f9, rfl, s2, eL, hacc⟩
      have e : (mBegun numbers bounds).take ns.length = mBegun numbers bounds := List.take_of_length_le (by
        unfold mBegun
        rw [List.length_mapIdx, List.length_zip]
        omega)
      rw [e] at hacc
      exact ⟨_, rfl, q H2 _ s2 (.lst (.inl (.inl (cut_mk eL nLX))) (hacc.same cut_more))⟩
end
end Cs
set_option linter.all false
set_option maxHeartbeats 2000000
/-! lists of numbers and the tableau -/
namespace Cs
open Cm
/-! ### lists as functions -/
def vec (r : List Rat) (j : Nat) : Rat := r.getD j 0
def ent (R : List (List Rat)) (p j : Nat) : Rat := (R.getD p []).getD j 0
def bas (B : List Nat) (p : Nat) : Nat := B.getD p 0
theorem ent_at {R : List (List Rat)} {p : Nat} {r : List Rat} (h : R[p]? = some r) (j : Nat) : ent R p j = vec r j := by
  unfold ent vec
  rw [List.getD_eq_getElem?_getD (l := R), h]
  rfl
theorem vec_at {r : List Rat} {j : Nat} {q : Rat} (h : r[j]? = some q) : vec r j = q := by
  unfold vec
  rw [List.getD_eq_getElem?_getD, h]
  rfl
theorem vec_map {r : List Rat} {j : Nat} (g : Rat → Rat) (h : j < r.length) : vec (r.map g) j = g (vec r j) := by
  have e : r[j]? = some r[j] := List.getElem?_eq_getElem h
  rw [vec_at e]
  refine vec_at ?_
  rw [List.getElem?_map, e]
  rfl
theorem vec_less {one other : List Rat} {b : Rat} {j : Nat} (h1 : j < one.length) (h2 : j < other.length) : vec (mLess one other b) j = vec one j - vec other j * b := by
  have e1 : one[j]? = some one[j] := List.getElem?_eq_getElem h1
  have e2 : other[j]? = some other[j] := List.getElem?_eq_getElem h2
  rw [vec_at e1, vec_at e2]
  refine vec_at ?_
  unfold mLess
  rw [List.getElem?_zipWith, e1, e2]
theorem less_len {one other : List Rat} {b : Rat} (h : one.length = other.length) : (mLess one other b).length = one.length := by
  unfold mLess
  rw [List.length_zipWith]
  omega
theorem bas_at {B : List Nat} {p b : Nat} (h : B[p]? = some b) : bas B p = b := by
  unfold bas
  rw [List.getD_eq_getElem?_getD, h]
  rfl
section
variable {R : List (List Rat)} {B : List Nat} {n k c : Nat}
theorem turn_at {p : Nat} {row rk : List Rat} (hp : R[p]? = some row) (hk : R[k]? = some rk) : (mTurn R k c)[p]? = some (mRow k c (mOwn rk (vec rk c)) p row) := by
  unfold mTurn
  rw [List.getElem?_mapIdx, hp, List.getD_eq_getElem?_getD, hk]
  rfl
theorem ent_turn (hrow : ∀ r ∈ R, r.length = n) {p j : Nat} (hp : p < R.length) (hk : k < R.length) (hj : j < n) : ent (mTurn R k c) p j = pivT (ent R) k c p j := by
  have ep : R[p]? = some R[p] := List.getElem?_eq_getElem hp
  have ek : R[k]? = some R[k] := List.getElem?_eq_getElem hk
  have lp := hrow _ (List.getElem_mem hp)
  have lk := hrow _ (List.getElem_mem hk)
  have lo : (mOwn R[k] (vec R[k] c)).length = n := by
    unfold mOwn
    rw [List.length_map, lk]
  have eo : vec (mOwn R[k] (vec R[k] c)) j = vec R[k] j / vec R[k] c := by
    unfold mOwn
    rw [vec_map _ (by omega)]
  rw [ent_at (turn_at ep ek)]
  unfold pivT mRow
  rw [ent_at ek, ent_at ek, ent_at ep, ent_at ep]
  by_cases h : p = k
  · rw [if_pos h, if_pos h, eo]
  · rw [if_neg h, if_neg h, vec_less (by omega) (by omega), eo]
    rfl
theorem turn_len (hrow : ∀ r ∈ R, r.length = n) (hk : k < R.length) : ∀ r ∈ mTurn R k c, r.length = n := by
  intro r hr
  obtain ⟨p, hp, e⟩ := List.mem_iff_getElem.mp hr
  rw [mTurn_len] at hp
  have ep : R[p]? = some R[p] := List.getElem?_eq_getElem hp
  have ek : R[k]? = some R[k] := List.getElem?_eq_getElem hk
  have h1 := turn_at (c := c) ep ek
  have h2 : (mTurn R k c)[p]? = some r := by rw [List.getElem?_eq_getElem (by rw [mTurn_len]; exact hp), e]
  rw [h1] at h2
  cases h2
  have lo : (mOwn R[k] (vec R[k] c)).length = n := by
    unfold mOwn
    rw [List.length_map, hrow _ (List.getElem_mem hk)]
  unfold mRow
  split
  · exact lo
  · rw [less_len (by rw [hrow _ (List.getElem_mem hp), lo]), hrow _ (List.getElem_mem hp)]
theorem bas_set {p : Nat} (hp : p < B.length) : bas (B.set k c) p = pivB (bas B) k c p := by
  unfold pivB
  by_cases h : p = k
  · subst h
    rw [if_pos rfl]
    exact bas_at (List.getElem?_set_self hp)
  · rw [if_neg h]
    unfold bas
    rw [List.getD_eq_getElem?_getD, List.getD_eq_getElem?_getD, List.getElem?_set_ne (Ne.symm h)]
end
theorem tab_congr {m n : Nat} {M : Nat → Nat → Rat} {f : Nat → Nat} {T T' : Nat → Nat → Rat} {b b' : Nat → Nat} (h : Tab m n M f T b) (hf : ∀ i, i < m → f i < n) (hT : ∀ p j, p < m → j < n → T' p j = T p j) (hb : ∀ p, p < m → b' p = b p) : Tab m n M f T' b' where
  bn := fun p hp => by
    rw [hb p hp]
    exact h.bn p hp
  unit := fun p q hp hq => by
    rw [hb q hq, hT p _ hp (h.bn q hq)]
    exact h.unit p q hp hq
  back := fun i j hi hj => by
    rw [h.back i j hi hj]
    exact sum_congr fun p hp => by rw [hT p j hp hj, hb p hp]
  fwd := fun p j hp hj => by
    rw [hT p j hp hj, h.fwd p j hp hj]
    exact sum_congr fun i hi => by rw [hT p _ hp (hf i hi)]
  nd := by
    rw [det_congr (A := fun i q => M i (b' q)) (B := fun i q => M i (b q)) fun i q _ hq => by rw [hb q hq]]
    exact h.nd
/-- a frame that is a tableau -/
structure JJ (m n : Nat) (M : Nat → Nat → Rat) (f : Nat → Nat) (R : List (List Rat)) (B : List Nat) : Prop where
  rl : R.length = m
  bl : B.length = m
  row : ∀ r ∈ R, r.length = n
  tab : Tab m n M f (ent R) (bas B)
  feas : ∀ p, p < m → 0 ≤ ent R p 0
section
variable {m n w : Nat} {M : Nat → Nat → Rat} {f : Nat → Nat} {R : List (List Rat)} {B : List Nat} {k c : Nat}
theorem JJ.turnTab (h : JJ m n M f R B) (S : Setup m n w f) (hk : k < m) (hc : c < n) (ne : ent R k c ≠ 0) : Tab m n M f (ent (mTurn R k c)) (bas (B.set k c)) := by
  have hl := h.rl
  have hb := h.bl
  exact tab_congr (h.tab.pivot hk hc S.fn ne) S.fn (fun p j hp hj => ent_turn h.row (by omega) (by omega) hj) fun p hp => bas_set (by omega)
theorem JJ.turn (h : JJ m n M f R B) (S : Setup m n w f) (hc : c < n) (L : Leaves m (ent R) (bas B) c k) : JJ m n M f (mTurn R k c) (B.set k c) where
  rl := by rw [mTurn_len, h.rl]
  bl := by rw [List.length_set, h.bl]
  row := turn_len h.row (by rw [h.rl]; exact L.lt)
  tab := h.turnTab S L.lt hc fun z => by
    have := L.pos
    rw [z] at this
    exact absurd this (by decide)
  feas := fun p hp => by
    have hl := h.rl
    rw [ent_turn h.row (by omega) (by have := L.lt; omega) S.n0]
    have hpos := L.pos
    have hk0 := h.feas k L.lt
    have hr0 := div_nonneg hk0 hpos
    unfold pivT
    split
    · exact hr0
    · have hp0 := h.feas p hp
      by_cases hpc : 0 < ent R p c
      · have hb := L.best p hp hpc
        have h1 := div_mul (a := ent R p 0) (b := ent R p c) (fun z => by rw [z] at hpc; exact absurd hpc (by decide))
        have h2 : ent R k 0 / ent R k c ≤ ent R p 0 / ent R p c := by
          rcases hb with hb | ⟨hb, _⟩
          · exact Rat.le_of_lt hb
          · rw [hb]
            exact Rat.le_refl
        have h3 := Rat.mul_nonneg (show 0 ≤ ent R p 0 / ent R p c - ent R k 0 / ent R k c by grind) (Rat.le_of_lt hpc)
        grind
      · have h3 := Rat.mul_nonneg hr0 (show 0 ≤ -(ent R p c) by grind)
        grind
theorem JJ.turn0 (h : JJ m n M f R B) (S : Setup m n w f) (hk : k < m) (hc : c < n) (ne : ent R k c ≠ 0) (z : ent R k 0 = 0) : JJ m n M f (mTurn R k c) (B.set k c) where
  rl := by rw [mTurn_len, h.rl]
  bl := by rw [List.length_set, h.bl]
  row := turn_len h.row (by rw [h.rl]; exact hk)
  tab := h.turnTab S hk hc ne
  feas := fun p hp => by
    have hl := h.rl
    rw [ent_turn h.row (by omega) (by omega) S.n0]
    unfold pivT
    rw [z, Rat.div_def]
    split
    · grind
    · have := h.feas p hp
      grind
end
/-! ### which row leaves -/
theorem lv_ok {R : List (List Rat)} {B : List Nat} {c : Nat} : ∀ (t : Nat), match mLvK R B c t with
    | none => ∀ p, p < t → ¬ 0 < ent R p c
    | some (r, i) => i < t ∧ 0 < ent R i c ∧ r = ent R i 0 / ent R i c ∧ ∀ p, p < t → 0 < ent R p c → r < ent R p 0 / ent R p c ∨ (r = ent R p 0 / ent R p c ∧ bas B i ≤ bas B p)
  | 0 => by
    show ∀ p, p < 0 → _
    intro p hp
    omega
  | t + 1 => by
    have ih := lv_ok (R := R) (B := B) (c := c) t
    rw [mLvK_succ]
    unfold mLvStep
    simp only
    by_cases hp : 0 < (R.getD t []).getD c 0
    · rw [if_pos hp]
      cases hk : mLvK R B c t with
      | none =>
        rw [hk] at ih
        simp only
        refine ⟨by omega, hp, rfl, fun p hpt hpos => ?_⟩
        by_cases e : p = t
        · subst e
          exact .inr ⟨rfl, Nat.le_refl _⟩
        · exact absurd hpos (ih p (by omega))
      | some bf =>
        obtain ⟨r, i⟩ := bf
        rw [hk] at ih
        obtain ⟨i1, i2, i3, i4⟩ := ih
        simp only
        by_cases hbetter : (R.getD t []).getD 0 0 / (R.getD t []).getD c 0 < r ∨ ((R.getD t []).getD 0 0 / (R.getD t []).getD c 0 = r ∧ B.getD t 0 < B.getD i 0)
        · rw [if_pos hbetter]
          simp only
          refine ⟨by omega, hp, rfl, fun p hpt hpos => ?_⟩
          by_cases e : p = t
          · subst e
            exact .inr ⟨rfl, Nat.le_refl _⟩
          · rcases i4 p (by omega) hpos with q | ⟨q1, q2⟩
            · rcases hbetter with h | ⟨h, _⟩
              · exact .inl (Std.lt_trans h q)
              · exact .inl (by rw [h]; exact q)
            · rcases hbetter with h | ⟨h, h'⟩
              · exact .inl (by rw [← q1]; exact h)
              · refine .inr ⟨by rw [h]; exact q1, ?_⟩
                have q2' : B.getD i 0 ≤ B.getD p 0 := q2
                show B.getD t 0 ≤ B.getD p 0
                omega
        · rw [if_neg hbetter]
          refine ⟨by omega, i2, i3, fun p hpt hpos => ?_⟩
          by_cases e : p = t
          · subst e
            have h1 : ¬ ent R p 0 / ent R p c < r := fun z => hbetter (.inl z)
            by_cases h2 : ent R p 0 / ent R p c = r
            · refine .inr ⟨h2.symm, ?_⟩
              have h3 : ¬ B.getD p 0 < B.getD i 0 := fun z => hbetter (.inr ⟨h2, z⟩)
              show B.getD i 0 ≤ B.getD p 0
              omega
            · exact .inl (by grind)
          · exact i4 p (by omega) hpos
    · rw [if_neg hp]
      cases hk : mLvK R B c t with
      | none =>
        rw [hk] at ih
        simp only
        intro p hpt
        by_cases e : p = t
        · subst e
          exact hp
        · exact ih p (by omega)
      | some bf =>
        obtain ⟨r, i⟩ := bf
        rw [hk] at ih
        obtain ⟨i1, i2, i3, i4⟩ := ih
        refine ⟨by omega, i2, i3, fun p hpt hpos => ?_⟩
        by_cases e : p = t
        · subst e
          exact absurd hpos hp
        · exact i4 p (by omega) hpos
theorem leaves_of {R : List (List Rat)} {B : List Nat} {c k : Nat} (h : mLeaving R B c = some k) : Leaves R.length (ent R) (bas B) c k := by
  have q := lv_ok (R := R) (B := B) (c := c) R.length
  unfold mLeaving at h
  cases e : mLvK R B c R.length with
  | none =>
    rw [e] at h
    cases h
  | some bf =>
    obtain ⟨r, i⟩ := bf
    rw [e] at h q
    cases h
    obtain ⟨i1, i2, rfl, i4⟩ := q
    exact ⟨i1, i2, i4⟩
theorem leaves_none {R : List (List Rat)} {B : List Nat} {c : Nat} (h : mLeaving R B c = none) : ∀ p, p < R.length → ¬ 0 < ent R p c := by
  have q := lv_ok (R := R) (B := B) (c := c) R.length
  unfold mLeaving at h
  cases e : mLvK R B c R.length with
  | none =>
    rw [e] at q
    exact q
  | some bf =>
    rw [e] at h
    cases h
/-! ### which column enters -/
theorem head_filter {p : Nat → Bool} : ∀ (s l : Nat), match ((List.range' s l).filter p).head? with
    | none => ∀ j, s ≤ j → j < s + l → p j = false
    | some c => s ≤ c ∧ c < s + l ∧ p c = true ∧ ∀ j, s ≤ j → j < c → p j = false
  | s, 0 => by
    simp only [List.range'_zero, List.filter_nil, List.head?_nil]
    intro j h1 h2
    omega
  | s, l + 1 => by
    rw [List.range'_succ, List.filter_cons]
    by_cases h : p s = true
    · rw [if_pos h, List.head?_cons]
      exact ⟨Nat.le_refl _, by omega, h, fun j h1 h2 => by omega⟩
    · rw [if_neg h]
      have ih := head_filter (p := p) (s + 1) l
      have hs : p s = false := by simpa using h
      cases e : ((List.range' (s + 1) l).filter p).head? with
      | none =>
        rw [e] at ih
        intro j h1 h2
        by_cases ej : j = s
        · rw [ej]
          exact hs
        · exact ih j (by omega) (by omega)
      | some c =>
        rw [e] at ih
        obtain ⟨i1, i2, i3, i4⟩ := ih
        refine ⟨by omega, by omega, i3, fun j h1 h2 => ?_⟩
        by_cases ej : j = s
        · rw [ej]
          exact hs
        · exact i4 j (by omega) h2
theorem enters_of {P : List Rat} {w c : Nat} (hw : 1 ≤ w) (h : mEnter P (List.range' 1 (w - 1)) = some c) : Enters w (vec P) c := by
  have q := head_filter (p := fun c => decide (P.getD c 0 < 0)) 1 (w - 1)
  unfold mEnter at h
  rw [h] at q
  obtain ⟨i1, i2, i3, i4⟩ := q
  refine ⟨i1, by omega, of_decide_eq_true i3, fun j h1 h2 => ?_⟩
  have := of_decide_eq_false (i4 j h1 h2)
  show 0 ≤ P.getD j 0
  grind
theorem enters_none {P : List Rat} {w : Nat} (hw : 1 ≤ w) (h : mEnter P (List.range' 1 (w - 1)) = none) : ∀ j, 1 ≤ j → j < w → 0 ≤ vec P j := by
  have q := head_filter (p := fun c => decide (P.getD c 0 < 0)) 1 (w - 1)
  unfold mEnter at h
  rw [h] at q
  intro j h1 h2
  have := of_decide_eq_false (q j h1 (by omega))
  show 0 ≤ P.getD j 0
  grind
/-! ### prices -/
theorem mPStep_vec {found row : List Rat} {b j : Nat} (hl : found.length = row.length) (hj : j < found.length) : vec (mPStep found (row, b)) j = vec found j - vec row j * vec found b := by
  unfold mPStep
  by_cases h : found.getD b 0 = 0
  · rw [if_pos h]
    show _ = _ - _ * found.getD b 0
    rw [h]
    grind
  · rw [if_neg h, vec_less hj (by show j < row.length; omega)]
    rfl
section
variable {m n w : Nat} {M : Nat → Nat → Rat} {f : Nat → Nat} {R : List (List Rat)} {B : List Nat} {costs : List Rat}
theorem pk_vec (h : JJ m n M f R B) (hc : costs.length = n) : ∀ (t : Nat), t ≤ m → (mPk costs R B t).length = n ∧ ∀ j, j < n → vec (mPk costs R B t) j = vec costs j - Cm.sumTo t fun p => vec costs (bas B p) * ent R p j
  | 0, _ => ⟨hc, fun j hj => by
    show vec costs j = _
    simp only [Cm.sumTo]
    grind⟩
  | t + 1, ht => by
    obtain ⟨l1, ih⟩ := pk_vec h hc t (by omega)
    have hl := h.rl
    have hb := h.bl
    have er : R[t]? = some R[t] := List.getElem?_eq_getElem (by omega)
    have eb : B[t]? = some B[t] := List.getElem?_eq_getElem (by omega)
    have lr := h.row _ (List.getElem_mem (show t < R.length by omega))
    rw [mPk_succ er eb]
    refine ⟨by rw [mPStep_len (by show R[t].length = _; omega), l1], fun j hj => ?_⟩
    rw [mPStep_vec (by omega) (by omega), ih j hj]
    have hbt : bas B t = B[t] := bas_at eb
    have hbn : B[t] < n := by
      rw [← hbt]
      exact h.tab.bn t (by omega)
    have e0 : vec (mPk costs R B t) B[t] = vec costs B[t] := by
      rw [ih _ hbn, sum_zero fun p hp => ?_]
      · grind
      · rw [← hbt, h.tab.unit p t (by omega) (by omega), if_neg (by omega)]
        grind
    rw [e0]
    simp only [Cm.sumTo]
    rw [hbt, ent_at er]
    grind
theorem prices_vec (h : JJ m n M f R B) (hc : costs.length = n) : (mPrices costs R B).length = n ∧ ∀ j, j < n → vec (mPrices costs R B) j = price m (vec costs) (ent R) (bas B) j := by
  have hl := h.rl
  have hb := h.bl
  have e : mPk costs R B m = mPrices costs R B := by
    unfold mPk mPrices
    rw [List.take_of_length_le (by rw [List.length_zip]; omega)]
  rw [← e]
  exact pk_vec h hc m (Nat.le_refl _)
end
end Cs
set_option linter.all false
set_option maxHeartbeats 2000000
/-! sizes; the run of settled ends; the first frame -/
namespace Cs
open Cm
/-! ### sizes -/
theorem int_lt {z : Int} {X : Rat} {k : Nat} (h : Ab X (z : Rat)) (hX : X < ((2 ^ k : Nat) : Rat)) : z.natAbs < 2 ^ k := by
  obtain ⟨h1, h2⟩ := h
  have a : (z : Rat) < ((2 ^ k : Nat) : Rat) := by grind
  have b : -((2 ^ k : Nat) : Rat) < (z : Rat) := by grind
  have a' : z < ((2 ^ k : Nat) : Int) := by
    have : ((z : Int) : Rat) < (((2 ^ k : Nat) : Int) : Rat) := by simpa using a
    exact Rat.intCast_lt_intCast.mp this
  have b' : -((2 ^ k : Nat) : Int) < z := by
    have : ((-((2 ^ k : Nat) : Int) : Int) : Rat) < ((z : Int) : Rat) := by simpa using b
    exact Rat.intCast_lt_intCast.mp this
  generalize 2 ^ k = N at a' b' ⊢
  omega
theorem sz_quot {q D N X : Rat} {k : Nat} (hD : IsInt D) (hN : IsInt N) (ne : D ≠ 0) (e : q * D = N) (aD : Ab X D) (aN : Ab X N) (hX : X < ((2 ^ k : Nat) : Rat)) : Sz k q := by
  obtain ⟨d, rfl⟩ := hD
  obtain ⟨z, rfl⟩ := hN
  have hd := int_lt aD hX
  have hz := int_lt aN hX
  have key : q.num * d = z * q.den := by
    have h1 : (q.num : Rat) * d = z * q.den := by
      have h2 : (q.num : Rat) = q * q.den := by
        have := Rat.mkRat_self q
        rw [Rat.mkRat_eq_div] at this
        have hden : (q.den : Rat) ≠ 0 := by
          have := q.den_nz
          exact_mod_cast this
        have h3 := div_mul (a := (q.num : Rat)) hden
        rw [this] at h3
        exact h3.symm
      rw [h2, ← e]
      grind
    have h2 : ((q.num * d : Int) : Rat) = ((z * q.den : Int) : Rat) := by
      rw [Rat.intCast_mul, Rat.intCast_mul, Rat.intCast_natCast]
      exact h1
    exact Rat.intCast_inj.mp h2
  have kn : q.num.natAbs * d.natAbs = z.natAbs * q.den := by
    have := congrArg Int.natAbs key
    rw [Int.natAbs_mul, Int.natAbs_mul] at this
    simpa using this
  have d0 : d.natAbs ≠ 0 := fun h => ne (by
    have : d = 0 := Int.natAbs_eq_zero.mp h
    rw [this]
    rfl)
  have dv : q.den ∣ d.natAbs := by
    refine Nat.Coprime.dvd_of_dvd_mul_left (k := q.den) (m := q.num.natAbs) q.reduced.symm ⟨z.natAbs, ?_⟩
    rw [kn, Nat.mul_comm]
  obtain ⟨t, ht⟩ := dv
  have t0 : 0 < t := Nat.pos_of_ne_zero fun h => d0 (by rw [ht, h, Nat.mul_zero])
  have zn : q.num.natAbs * t = z.natAbs := by
    have hp := q.den_pos
    have : q.den * (q.num.natAbs * t) = q.den * z.natAbs := by
      rw [ht] at kn
      rw [Nat.mul_comm q.den z.natAbs, ← kn]
      rw [Nat.mul_left_comm]
    exact Nat.eq_of_mul_eq_mul_left hp this
  refine ⟨Nat.lt_of_le_of_lt ?_ hz, Nat.lt_of_le_of_lt ?_ hd⟩
  · rw [← zn]
    exact Nat.le_mul_of_pos_right _ t0
  · rw [ht]
    exact Nat.le_mul_of_pos_right _ t0
theorem detB_le {m : Nat} (hm : m ≤ 8) : detB 100 m ≤ ((2 ^ (10 * m) : Nat) : Rat) := by
  induction m with
  | zero =>
    simp only [detB]
    decide
  | succ m ih =>
    have h := ih (by omega)
    have h0 := detB_nonneg (c := 100) (by decide) m
    simp only [detB]
    have hm1 : ((m + 1 : Nat) : Rat) ≤ 8 := by
      have : ((m + 1 : Nat) : Rat) ≤ ((8 : Nat) : Rat) := by exact_mod_cast hm
      exact this
    have hm0 : (0 : Rat) ≤ ((m + 1 : Nat) : Rat) := by exact_mod_cast Nat.zero_le (m + 1)
    have e : ((2 ^ (10 * (m + 1)) : Nat) : Rat) = 1024 * ((2 ^ (10 * m) : Nat) : Rat) := by
      have : 2 ^ (10 * (m + 1)) = 1024 * 2 ^ (10 * m) := by
        rw [Nat.mul_add, Nat.pow_add]
        omega
      rw [this]
      simp
    rw [e]
    have h1 := Rat.mul_nonneg (show 0 ≤ 8 - ((m + 1 : Nat) : Rat) by grind) h0
    grind
/-- the numbers of the first rows -/
structure Plain (m n : Nat) (M : Nat → Nat → Rat) : Prop where
  m8 : m ≤ 8
  int : ∀ i j, IsInt (M i j)
  ab : ∀ i j, Ab 100 (M i j)
theorem ab_mono {c d x : Rat} (h : Ab c x) (hcd : c ≤ d) : Ab d x := by
  obtain ⟨h1, h2⟩ := h
  constructor <;> grind
section
variable {m n w : Nat} {M : Nat → Nat → Rat} {f : Nat → Nat} {R : List (List Rat)} {B : List Nat} {costs : List Rat} {cols : List Nat}
def big : Rat := ((2 ^ 80 : Nat) : Rat)
theorem big_lt : 9000 * big < ((2 ^ 100 : Nat) : Rat) := by
  unfold big
  decide +kernel
theorem det_big (Pl : Plain m n M) {A : Nat → Nat → Rat} (h : ∀ i j, ∃ q, A i j = M i q) : Ab big (det m A) := by
  have h1 := det_ab (c := 100) (by decide) (m := m) (A := A) fun i j => by
    obtain ⟨q, e⟩ := h i j
    rw [e]
    exact Pl.ab i q
  refine ab_mono h1 (Rat.le_trans (detB_le Pl.m8) ?_)
  unfold big
  have : 2 ^ (10 * m) ≤ 2 ^ 80 := Nat.pow_le_pow_right (by decide) (by have := Pl.m8; omega)
  exact_mod_cast this
theorem det_whole (Pl : Plain m n M) {A : Nat → Nat → Rat} (h : ∀ i j, ∃ q, A i j = M i q) : IsInt (det m A) := det_int fun i j => by
  obtain ⟨q, e⟩ := h i j
  rw [e]
  exact Pl.int i q
/-- the common divisor of a frame -/
def dD (m : Nat) (M : Nat → Nat → Rat) (B : List Nat) : Rat := det m fun i q => M i (bas B q)
theorem ent_whole (Pl : Plain m n M) (h : JJ m n M f R B) {p j : Nat} (hp : p < m) (hj : j < n) : IsInt (ent R p j * dD m M B) ∧ Ab big (ent R p j * dD m M B) := by
  unfold dD
  rw [h.tab.quot hp hj]
  have e : ∀ i q, ∃ c, setc (fun i q => M i (bas B q)) p (fun i => M i j) i q = M i c := fun i q => by
    unfold setc
    split
    · exact ⟨_, rfl⟩
    · exact ⟨_, rfl⟩
  exact ⟨det_whole Pl e, det_big Pl e⟩
theorem dD_whole (Pl : Plain m n M) : IsInt (dD m M B) ∧ Ab big (dD m M B) := ⟨det_whole Pl fun i q => ⟨_, rfl⟩, det_big Pl fun i q => ⟨_, rfl⟩⟩
theorem big_nonneg : (0 : Rat) ≤ big := by
  unfold big
  decide +kernel
theorem ent_sz (Pl : Plain m n M) (h : JJ m n M f R B) {p j : Nat} (hp : p < m) (hj : j < n) : Sz 100 (ent R p j) := by
  have h1 := ent_whole Pl h hp hj
  have h2 := dD_whole (B := B) Pl
  have b0 := big_nonneg
  have b1 := big_lt
  exact sz_quot h2.1 h1.1 h.tab.nd rfl h2.2 h1.2 (by grind)
theorem row_sz (Pl : Plain m n M) (h : JJ m n M f R B) : ∀ r ∈ R, r.length = n ∧ SzAll 400 r := fun r hr => by
  refine ⟨h.row r hr, fun q hq => ?_⟩
  obtain ⟨p, hp, e⟩ := List.mem_iff_getElem.mp hr
  obtain ⟨j, hj, e2⟩ := List.mem_iff_getElem.mp hq
  have hl := h.rl
  have hrl := h.row r hr
  have h1 := ent_sz Pl h (p := p) (j := j) (by omega) (by omega)
  have e3 : R[p]? = some r := by rw [List.getElem?_eq_getElem hp, e]
  rw [ent_at e3, vec_at (q := q) (by rw [List.getElem?_eq_getElem hj, e2])] at h1
  exact h1.mono (by decide)
/-- whole costs that are not great -/
def Fee (costs : List Rat) : Prop := ∀ j, IsInt (vec costs j) ∧ Ab 1000 (vec costs j)
theorem pk_sz (Pl : Plain m n M) (h : JJ m n M f R B) (hc : costs.length = n) (hf : Fee costs) {t : Nat} (ht : t ≤ m) : SzAll 400 (mPk costs R B t) := fun q hq => by
  obtain ⟨l1, hv⟩ := pk_vec h hc t ht
  obtain ⟨j, hj, e⟩ := List.mem_iff_getElem.mp hq
  have hv := hv j (by omega)
  rw [vec_at (q := q) (by rw [List.getElem?_eq_getElem hj, e])] at hv
  have hD := dD_whole (B := B) Pl
  have b0 := big_nonneg
  have e2 : q * dD m M B = vec costs j * dD m M B + (-1) * Cm.sumTo t fun p => vec costs (bas B p) * (ent R p j * dD m M B) := by
    rw [hv]
    have : (Cm.sumTo t fun p => vec costs (bas B p) * (ent R p j * dD m M B)) = (Cm.sumTo t fun p => vec costs (bas B p) * ent R p j) * dD m M B := by
      rw [← sum_mulr]
      exact sum_congr fun p _ => by grind
    rw [this]
    grind
  have i1 : IsInt (Cm.sumTo t fun p => vec costs (bas B p) * (ent R p j * dD m M B)) := IsInt.sum fun p hp => (hf _).1.mul (ent_whole Pl h (by omega) (by omega)).1
  have a1 : Ab (t * (1000 * big)) (Cm.sumTo t fun p => vec costs (bas B p) * (ent R p j * dD m M B)) := Ab.sum fun p hp => Ab.mul (by decide) (hf _).2 (ent_whole Pl h (by omega) (by omega)).2
  have ht8 : (t : Rat) ≤ 8 := by
    have hm := Pl.m8
    have : (t : Rat) ≤ ((8 : Nat) : Rat) := by exact_mod_cast (show t ≤ 8 by omega)
    exact this
  have a2 : Ab (8000 * big) (Cm.sumTo t fun p => vec costs (bas B p) * (ent R p j * dD m M B)) := ab_mono a1 (by
    have h1 := Rat.mul_nonneg (show 0 ≤ 8 - (t : Rat) by grind) b0
    grind)
  have a3 := Ab.mul (by decide) (hf j).2 hD.2
  have i3 := (hf j).1.mul hD.1
  have aN : Ab (9000 * big) (q * dD m M B) := by
    rw [e2]
    obtain ⟨x1, x2⟩ := a2
    obtain ⟨y1, y2⟩ := a3
    constructor <;> grind
  have iN : IsInt (q * dD m M B) := by
    rw [e2]
    exact i3.add (IsInt.mul ⟨-1, rfl⟩ i1)
  exact (sz_quot hD.1 iN h.tab.nd rfl (ab_mono hD.2 (by grind)) aN big_lt).mono (by decide)
theorem JJ.shape (Pl : Plain m n M) (h : JJ m n M f R B) (hc : costs.length = n) (hf : Fee costs) : Shape n costs R B := by
  have hl := h.rl
  have hb := h.bl
  have h8 := Pl.m8
  refine ⟨by omega, by omega, row_sz Pl h, fun b hb' => ?_, fun k hk => pk_sz Pl h hc hf (by omega)⟩
  obtain ⟨p, hp, e⟩ := List.mem_iff_getElem.mp hb'
  have := h.tab.bn p (by omega)
  rw [bas_at (b := b) (by rw [List.getElem?_eq_getElem hp, e])] at this
  exact this
end
/-! ### the run ends -/
abbrev St2 := List (List Rat) × List Nat
def nxt (costs : List Rat) (cols : List Nat) (s : St2) : Option St2 := match mEnter (mPrices costs s.1 s.2) cols with
  | none => none
  | some c => match mLeaving s.1 s.2 c with
    | none => none
    | some k => some (mTurn s.1 k c, s.2.set k c)
inductive Stops (g : St2 → Option St2) : Nat → St2 → Prop
  | stop {s : St2} : g s = none → Stops g 0 s
  | step {s s' : St2} {t : Nat} : g s = some s' → Stops g t s' → Stops g (t + 1) s
theorem Stops.uniq {g : St2 → Option St2} : ∀ {t t' : Nat} {s : St2}, Stops g t s → Stops g t' s → t = t'
  | _, _, _, .stop h, .stop h' => rfl
  | _, _, _, .stop h, .step h' _ => by
    rw [h] at h'
    cases h'
  | _, _, _, .step h _, .stop h' => by
    rw [h] at h'
    cases h'
  | _, _, _, .step h a, .step h' a' => by
    rw [h] at h'
    cases h'
    rw [Stops.uniq a a']
open Classical in
/-- how many turns are left -/
noncomputable def left (g : St2 → Option St2) (s : St2) : Nat := if h : ∃ t, Stops g t s then Classical.choose h else 0
theorem left_step {g : St2 → Option St2} {s s' : St2} (hs : ∃ t, Stops g t s) (e : g s = some s') : (∃ t, Stops g t s') ∧ left g s' < left g s := by
  obtain ⟨t, ht⟩ := hs
  cases ht with
  | stop h =>
    rw [h] at e
    cases e
  | @step _ s2 t' h a =>
    rw [h] at e
    cases e
    refine ⟨⟨t', a⟩, ?_⟩
    have hs' : ∃ t, Stops g t s' := ⟨t', a⟩
    have hs : ∃ t, Stops g t s := ⟨t' + 1, .step h a⟩
    have e1 : left g s' = t' := by
      unfold left
      rw [dif_pos hs']
      exact (Classical.choose_spec hs').uniq a
    have e2 : left g s = t' + 1 := by
      unfold left
      rw [dif_pos hs]
      exact (Classical.choose_spec hs).uniq (.step h a)
    omega
section
variable {m n w : Nat} {M : Nat → Nat → Rat} {f : Nat → Nat} {costs : List Rat}
theorem nxt_of {s s' : St2} {cols : List Nat} (h : nxt costs cols s = some s') : ∃ c k, mEnter (mPrices costs s.1 s.2) cols = some c ∧ mLeaving s.1 s.2 c = some k ∧ s' = (mTurn s.1 k c, s.2.set k c) := by
  unfold nxt at h
  cases e1 : mEnter (mPrices costs s.1 s.2) cols with
  | none =>
    rw [e1] at h
    cases h
  | some c =>
    rw [e1] at h
    simp only at h
    cases e2 : mLeaving s.1 s.2 c with
    | none =>
      rw [e2] at h
      cases h
    | some k =>
      rw [e2] at h
      exact ⟨c, k, rfl, e2, (Option.some.inj h).symm⟩
/-- what a step is -/
theorem step_ok (S : Setup m n w f) (hw : 1 ≤ w) (hc : costs.length = n) {R : List (List Rat)} {B : List Nat} {c k : Nat} (h : JJ m n M f R B) (e1 : mEnter (mPrices costs R B) (List.range' 1 (w - 1)) = some c) (e2 : mLeaving R B c = some k) :
    Enters w (price m (vec costs) (ent R) (bas B)) c ∧ Leaves m (ent R) (bas B) c k ∧ JJ m n M f (mTurn R k c) (B.set k c) := by
  have q := enters_of hw e1
  have wn := S.wn
  obtain ⟨l1, pv⟩ := prices_vec h hc
  have E : Enters w (price m (vec costs) (ent R) (bas B)) c := by
    refine ⟨q.lo, q.hi, ?_, fun j h1 h2 => ?_⟩
    · have hi := q.hi
      rw [← pv c (by omega)]
      exact q.neg
    · have hi := q.hi
      rw [← pv j (by omega)]
      exact q.first j h1 h2
  have L := leaves_of e2
  rw [h.rl] at L
  have hi := q.hi
  exact ⟨E, L, h.turn S (by omega) L⟩
theorem ends (S : Setup m n w f) (hw : 1 ≤ w) (hc : costs.length = n) {R : List (List Rat)} {B : List Nat} (h : JJ m n M f R B) : ∃ t, Stops (nxt costs (List.range' 1 (w - 1))) t (R, B) := by
  apply Classical.byContradiction
  intro no
  have go : ∀ s : {s : St2 // JJ m n M f s.1 s.2 ∧ ¬ ∃ t, Stops (nxt costs (List.range' 1 (w - 1))) t s}, ∃ s' : {s : St2 // JJ m n M f s.1 s.2 ∧ ¬ ∃ t, Stops (nxt costs (List.range' 1 (w - 1))) t s}, nxt costs (List.range' 1 (w - 1)) s.1 = some s'.1 := fun ⟨s, hj, hn⟩ => by
    cases e : nxt costs (List.range' 1 (w - 1)) s with
    | none => exact absurd ⟨0, .stop e⟩ hn
    | some s' =>
      obtain ⟨c, k, e1, e2, rfl⟩ := nxt_of e
      exact ⟨⟨_, (step_ok S hw hc hj e1 e2).2.2, fun ⟨t, ht⟩ => hn ⟨t + 1, .step e ht⟩⟩, rfl⟩
  let nx := fun s => Classical.choose (go s)
  have hnx : ∀ s, nxt costs (List.range' 1 (w - 1)) s.1 = some (nx s).1 := fun s => Classical.choose_spec (go s)
  let seq : Nat → {s : St2 // JJ m n M f s.1 s.2 ∧ ¬ ∃ t, Stops (nxt costs (List.range' 1 (w - 1))) t s} := fun i => Nat.rec ⟨(R, B), h, no⟩ (fun _ s => nx s) i
  have hseq : ∀ i, nxt costs (List.range' 1 (w - 1)) (seq i).1 = some (seq (i + 1)).1 := fun i => hnx (seq i)
  have ck : ∀ i, ∃ c k, mEnter (mPrices costs (seq i).1.1 (seq i).1.2) (List.range' 1 (w - 1)) = some c ∧ mLeaving (seq i).1.1 (seq i).1.2 c = some k ∧ (seq (i + 1)).1 = (mTurn (seq i).1.1 k c, (seq i).1.2.set k c) := fun i => nxt_of (hseq i)
  let c := fun i => Classical.choose (ck i)
  let k := fun i => Classical.choose (Classical.choose_spec (ck i))
  have spec : ∀ i, mEnter (mPrices costs (seq i).1.1 (seq i).1.2) (List.range' 1 (w - 1)) = some (c i) ∧ mLeaving (seq i).1.1 (seq i).1.2 (c i) = some (k i) ∧ (seq (i + 1)).1 = (mTurn (seq i).1.1 (k i) (c i), (seq i).1.2.set (k i) (c i)) := fun i => Classical.choose_spec (Classical.choose_spec (ck i))
  have run : Run m n w M f (vec costs) (fun i => ent (seq i).1.1) (fun i => bas (seq i).1.2) c k := by
    refine ⟨fun i => (seq i).2.1.tab, fun i => (seq i).2.1.feas, fun i => (step_ok S hw hc (seq i).2.1 (spec i).1 (spec i).2.1).1, fun i => (step_ok S hw hc (seq i).2.1 (spec i).1 (spec i).2.1).2.1, fun i p j hp hj => ?_, fun i p hp => ?_⟩
    · have L := (step_ok S hw hc (seq i).2.1 (spec i).1 (spec i).2.1).2.1
      have hl := (seq i).2.1.rl
      have := L.lt
      simp only [(spec i).2.2]
      exact ent_turn (seq i).2.1.row (by omega) (by omega) hj
    · have hb := (seq i).2.1.bl
      simp only [(spec i).2.2]
      exact bas_set (by omega)
  exact run.false S
end
end Cs
set_option linter.all false
set_option maxHeartbeats 2000000
/-! inequalities: the first frame, both phases, what is found -/
namespace Cs
open Cm
/-! ### rows by places -/
theorem vec_nil (j : Nat) : vec [] j = 0 := rfl
theorem vec_zero (a : Rat) (r : List Rat) : vec (a :: r) 0 = a := rfl
theorem vec_succ (a : Rat) (r : List Rat) (j : Nat) : vec (a :: r) (j + 1) = vec r j := by
  unfold vec
  simp
theorem vec_left {r s : List Rat} {j : Nat} (h : j < r.length) : vec (r ++ s) j = vec r j := by
  unfold vec
  simp [h, List.getElem?_append_left h]
theorem vec_right {r s : List Rat} (j : Nat) : vec (r ++ s) (r.length + j) = vec s j := by
  unfold vec
  rw [List.getD_eq_getElem?_getD, List.getD_eq_getElem?_getD, List.getElem?_append_right (by omega), show r.length + j - r.length = j by omega]
theorem vec_over {r : List Rat} {j : Nat} (h : r.length ≤ j) : vec r j = 0 := by
  unfold vec
  simp [h]
theorem vec_unit {m i j : Nat} {s : Rat} (h : j < m) : vec (unitRow m i s) j = if j = i then s else 0 := by
  refine vec_at ?_
  unfold unitRow
  rw [List.getElem?_map, List.getElem?_range h]
  rfl
theorem unit_len' (m i : Nat) (s : Rat) : (unitRow m i s).length = m := by
  rw [unitRow, List.length_map, List.length_range]
theorem bSign_ne (b : Rat) : bSign b * bSign b = 1 := by
  unfold bSign
  split <;> grind
theorem bSign_abs (b : Rat) : 0 ≤ bSign b * b := by
  unfold bSign
  split <;> grind
/-- A x at most b, x from 0 on -/
structure Lp (m wide : Nat) (A : List (List Rat)) (bs : List Rat) : Prop where
  al : A.length = m
  bl : bs.length = m
  m8 : m ≤ 8
  w8 : wide ≤ 8
  row : ∀ r ∈ A, r.length = wide
  ai : ∀ i k, IsInt (ent A i k) ∧ Ab 100 (ent A i k)
  bi : ∀ i, IsInt (vec bs i) ∧ Ab 100 (vec bs i)
def sg (bs : List Rat) (i : Nat) : Rat := bSign (vec bs i)
def basis0 (m wide : Nat) (bs : List Rat) : List Nat := bs.mapIdx fun i b => 1 + wide + i + (if b < 0 then m else 0)
section
variable {m wide : Nat} {A : List (List Rat)} {bs : List Rat}
theorem begun_at (L : Lp m wide A bs) {i : Nat} (hi : i < m) : ∃ row, A[i]? = some row ∧ row.length = wide ∧ (mBegun A bs)[i]? = some (bRow m i row (vec bs i)) := by
  have h1 := L.al
  have h2 := L.bl
  have e1 : A[i]? = some A[i] := List.getElem?_eq_getElem (by omega)
  have e2 : bs[i]? = some bs[i] := List.getElem?_eq_getElem (by omega)
  refine ⟨A[i], e1, L.row _ (List.getElem_mem _), ?_⟩
  unfold mBegun
  have : (A.zip bs)[i]? = some (A[i], bs[i]) := by
    rw [List.getElem?_zip_eq_some]
    exact ⟨e1, e2⟩
  rw [List.getElem?_mapIdx, this, vec_at e2]
  exact congrArg (fun q => some (bRow q i A[i] bs[i])) h1
theorem brow_len {i : Nat} {row : List Rat} {b : Rat} (h : row.length = wide) : (bRow m i row b).length = 1 + wide + m + m := by
  unfold bRow
  rw [List.length_cons, List.length_append, List.length_append, List.length_map, unit_len', unit_len', h]
  omega
theorem M_zero (L : Lp m wide A bs) {i : Nat} (hi : i < m) : ent (mBegun A bs) i 0 = sg bs i * vec bs i := by
  obtain ⟨row, _, _, e⟩ := begun_at L hi
  rw [ent_at e]
  rfl
theorem M_x (L : Lp m wide A bs) {i k : Nat} (hi : i < m) (hk : k < wide) : ent (mBegun A bs) i (1 + k) = sg bs i * ent A i k := by
  obtain ⟨row, er, lr, e⟩ := begun_at L hi
  rw [ent_at e, ent_at er, Nat.add_comm 1 k]
  unfold bRow
  rw [vec_succ, vec_left (by rw [List.length_map]; omega), vec_map _ (by omega)]
  rfl
theorem M_spare (L : Lp m wide A bs) {i q : Nat} (hi : i < m) (hq : q < m) : ent (mBegun A bs) i (1 + wide + q) = if q = i then sg bs i else 0 := by
  obtain ⟨row, er, lr, e⟩ := begun_at L hi
  rw [ent_at e, show 1 + wide + q = wide + q + 1 by omega]
  unfold bRow
  have lm : (row.map (bSign (vec bs i) * ·)).length = wide := by rw [List.length_map, lr]
  have e2 := vec_right (r := row.map (bSign (vec bs i) * ·)) (s := unitRow m i (bSign (vec bs i)) ++ unitRow m i 1) q
  rw [lm] at e2
  rw [vec_succ, e2, vec_left (by rw [unit_len']; exact hq), vec_unit hq]
  rfl
theorem M_fill (L : Lp m wide A bs) {i q : Nat} (hi : i < m) (hq : q < m) : ent (mBegun A bs) i (1 + wide + m + q) = if q = i then 1 else 0 := by
  obtain ⟨row, er, lr, e⟩ := begun_at L hi
  rw [ent_at e, show 1 + wide + m + q = wide + (m + q) + 1 by omega]
  unfold bRow
  have lm : (row.map (bSign (vec bs i) * ·)).length = wide := by rw [List.length_map, lr]
  have e2 := vec_right (r := row.map (bSign (vec bs i) * ·)) (s := unitRow m i (bSign (vec bs i)) ++ unitRow m i 1) (m + q)
  rw [lm] at e2
  have e3 := vec_right (r := unitRow m i (bSign (vec bs i))) (s := unitRow m i 1) q
  rw [unit_len'] at e3
  rw [vec_succ, e2, e3, vec_unit hq]
theorem begun_len (L : Lp m wide A bs) : (mBegun A bs).length = m := by
  unfold mBegun
  rw [List.length_mapIdx, List.length_zip, L.al, L.bl]
  omega
theorem begun_row (L : Lp m wide A bs) : ∀ r ∈ mBegun A bs, r.length = 1 + wide + m + m := fun r hr => by
  obtain ⟨i, hi, e⟩ := List.mem_iff_getElem.mp hr
  rw [begun_len L] at hi
  obtain ⟨row, _, lr, e2⟩ := begun_at L hi
  have e3 : (mBegun A bs)[i]? = some r := by rw [List.getElem?_eq_getElem (by rw [begun_len L]; exact hi), e]
  rw [e2] at e3
  cases e3
  exact brow_len lr
theorem sg_int (i : Nat) : IsInt (sg bs i) ∧ Ab 1 (sg bs i) := by
  unfold sg bSign
  split
  · exact ⟨⟨-1, rfl⟩, by constructor <;> decide⟩
  · exact ⟨⟨1, rfl⟩, by constructor <;> decide⟩
theorem ab_one {x c : Rat} {s : Rat} (hs : Ab 1 s) (h : Ab c x) : Ab c (s * x) := by
  have := Ab.mul (by decide) hs h
  rw [show (1 : Rat) * c = c by grind] at this
  exact this
theorem begun_plain (L : Lp m wide A bs) : Plain m (1 + wide + m + m) (ent (mBegun A bs)) := by
  have key : ∀ i j, IsInt (ent (mBegun A bs) i j) ∧ Ab 100 (ent (mBegun A bs) i j) := fun i j => by
    have zero : IsInt (0 : Rat) ∧ Ab 100 (0 : Rat) := ⟨⟨0, rfl⟩, by constructor <;> decide⟩
    have one : IsInt (1 : Rat) ∧ Ab 100 (1 : Rat) := ⟨⟨1, rfl⟩, by constructor <;> decide⟩
    by_cases hi : i < m
    · by_cases h0 : j = 0
      · subst h0
        rw [M_zero L hi]
        exact ⟨(sg_int i).1.mul (L.bi i).1, ab_one (sg_int i).2 (L.bi i).2⟩
      · by_cases h1 : j < 1 + wide
        · rw [show j = 1 + (j - 1) by omega, M_x L hi (by omega)]
          exact ⟨(sg_int i).1.mul (L.ai i _).1, ab_one (sg_int i).2 (L.ai i _).2⟩
        · by_cases h2 : j < 1 + wide + m
          · rw [show j = 1 + wide + (j - (1 + wide)) by omega, M_spare L hi (by omega)]
            split
            · exact ⟨(sg_int i).1, ab_mono (sg_int i).2 (by decide)⟩
            · exact zero
          · by_cases h3 : j < 1 + wide + m + m
            · rw [show j = 1 + wide + m + (j - (1 + wide + m)) by omega, M_fill L hi (by omega)]
              split
              · exact one
              · exact zero
            · obtain ⟨row, _, lr, e⟩ := begun_at L hi
              rw [ent_at e, vec_over (by rw [brow_len lr]; omega)]
              exact zero
    · have : (mBegun A bs).getD i [] = [] := by
        have := begun_len L
        rw [List.getD_eq_getElem?_getD, List.getElem?_eq_none (by omega)]
        rfl
      unfold ent
      rw [this]
      exact zero
  exact ⟨L.m8, fun i j => (key i j).1, fun i j => (key i j).2⟩
theorem basis_len (L : Lp m wide A bs) : (basis0 m wide bs).length = m := by
  unfold basis0
  rw [List.length_mapIdx, L.bl]
theorem basis_at (L : Lp m wide A bs) {i : Nat} (hi : i < m) : bas (basis0 m wide bs) i = 1 + wide + i + (if vec bs i < 0 then m else 0) := by
  have h2 := L.bl
  have e2 : bs[i]? = some bs[i] := List.getElem?_eq_getElem (by omega)
  refine bas_at ?_
  unfold basis0
  rw [List.getElem?_mapIdx, e2, vec_at e2]
  rfl
theorem M_basis (L : Lp m wide A bs) {i q : Nat} (hi : i < m) (hq : q < m) : ent (mBegun A bs) i (bas (basis0 m wide bs) q) = if i = q then 1 else 0 := by
  rw [basis_at L hq]
  by_cases h : vec bs q < 0
  · rw [if_pos h, show 1 + wide + q + m = 1 + wide + m + q by omega, M_fill L hi hq]
    by_cases e : i = q
    · rw [if_pos e, if_pos e.symm]
    · rw [if_neg e, if_neg (Ne.symm e)]
  · rw [if_neg h, Nat.add_zero, M_spare L hi hq]
    by_cases e : i = q
    · subst e
      rw [if_pos rfl, if_pos rfl]
      unfold sg bSign
      rw [if_neg h]
    · rw [if_neg e, if_neg (Ne.symm e)]
theorem det_one : ∀ m : Nat, det m (fun i q => if i = q then 1 else 0) = 1
  | 0 => rfl
  | m + 1 => by
    simp only [det]
    rw [sum_single (k := 0) (by omega) fun c hc hne => ?_]
    · rw [if_pos rfl, det_congr (A := fun i j => if i + 1 = skip 0 j then (1 : Rat) else 0) (B := fun i q => if i = q then 1 else 0) fun i j _ _ => ?_, det_one m]
      · unfold sgn
        rw [if_pos rfl]
        grind
      · have e : skip 0 j = j + 1 := by
          unfold skip
          rw [if_neg (by omega)]
        rw [e]
        by_cases h : i = j
        · rw [if_pos h, if_pos (by omega)]
        · rw [if_neg h, if_neg (by omega)]
    · rw [if_neg (Ne.symm hne)]
      grind
def fil (m wide i : Nat) : Nat := 1 + wide + m + i
theorem setup (m wide : Nat) : Setup m (1 + wide + m + m) (1 + wide + m) (fil m wide) := ⟨by omega, fun i hi => by unfold fil; omega, by omega⟩
/-- the first frame -/
theorem first_frame (L : Lp m wide A bs) : JJ m (1 + wide + m + m) (ent (mBegun A bs)) (fil m wide) (mBegun A bs) (basis0 m wide bs) where
  rl := begun_len L
  bl := basis_len L
  row := begun_row L
  tab := {
    bn := fun p hp => by
      rw [basis_at L hp]
      split <;> omega
    unit := fun p q hp hq => M_basis L hp hq
    back := fun i j hi hj => by
      rw [sum_single hi fun p hp hne => ?_]
      · rw [M_basis L hi hi, if_pos rfl]
        grind
      · rw [M_basis L hi hp, if_neg (Ne.symm hne)]
        grind
    fwd := fun p j hp hj => by
      rw [sum_single hp fun i hi hne => ?_]
      · unfold fil
        rw [M_fill L hp hp, if_pos rfl]
        grind
      · unfold fil
        rw [M_fill L hp hi, if_neg hne]
        grind
    nd := by
      rw [det_congr (B := fun i q => if i = q then 1 else 0) fun i q hi hq => M_basis L hi hq, det_one]
      decide }
  feas := fun p hp => by
    rw [M_zero L hp]
    exact bSign_abs _
end
/-! ### no ray -/
theorem no_ray {m n : Nat} {M : Nat → Nat → Rat} {f : Nat → Nat} {R : List (List Rat)} {B : List Nat} {cost : Nat → Rat} (hc : ∀ j, 0 ≤ cost j) {c : Nat} (hn : ∀ p, p < m → ¬ 0 < ent R p c) (neg : price m cost (ent R) (bas B) c < 0) : False := by
  have h1 : 0 ≤ Cm.sumTo m fun p => cost (bas B p) * -(ent R p c) := sum_nonneg fun p hp => Rat.mul_nonneg (hc _) (by have := hn p hp; grind)
  have h2 : (Cm.sumTo m fun p => cost (bas B p) * -(ent R p c)) = (-1) * Cm.sumTo m fun p => cost (bas B p) * ent R p c := by
    rw [← sum_mul]
    exact sum_congr fun p _ => by grind
  have h3 := hc c
  unfold price at neg
  grind
/-! ### weights -/
section
variable {m wide : Nat} {A : List (List Rat)} {bs : List Rat} {R : List (List Rat)} {B : List Nat}
/-- the weights that the prices show -/
def lam (m wide : Nat) (bs : List Rat) (cost : Nat → Rat) (R : List (List Rat)) (B : List Nat) (i : Nat) : Rat := -(dual m (fil m wide) cost (ent R) (bas B) i * sg bs i)
theorem price_zero (L : Lp m wide A bs) (h : JJ m (1 + wide + m + m) (ent (mBegun A bs)) (fil m wide) R B) (cost : Nat → Rat) : price m cost (ent R) (bas B) 0 = cost 0 + Cm.sumTo m fun i => lam m wide bs cost R B i * vec bs i := by
  rw [price_dual h.tab cost (by omega)]
  have e : (Cm.sumTo m fun i => dual m (fil m wide) cost (ent R) (bas B) i * ent (mBegun A bs) i 0) = (-1) * Cm.sumTo m fun i => lam m wide bs cost R B i * vec bs i := by
    rw [← sum_mul]
    refine sum_congr fun i hi => ?_
    rw [M_zero L hi]
    unfold lam
    grind
  rw [e]
  grind
theorem price_x (L : Lp m wide A bs) (h : JJ m (1 + wide + m + m) (ent (mBegun A bs)) (fil m wide) R B) (cost : Nat → Rat) {k : Nat} (hk : k < wide) : price m cost (ent R) (bas B) (1 + k) = cost (1 + k) + Cm.sumTo m fun i => lam m wide bs cost R B i * ent A i k := by
  rw [price_dual h.tab cost (by omega)]
  have e : (Cm.sumTo m fun i => dual m (fil m wide) cost (ent R) (bas B) i * ent (mBegun A bs) i (1 + k)) = (-1) * Cm.sumTo m fun i => lam m wide bs cost R B i * ent A i k := by
    rw [← sum_mul]
    refine sum_congr fun i hi => ?_
    rw [M_x L hi hk]
    unfold lam
    grind
  rw [e]
  grind
theorem price_spare (L : Lp m wide A bs) (h : JJ m (1 + wide + m + m) (ent (mBegun A bs)) (fil m wide) R B) (cost : Nat → Rat) {q : Nat} (hq : q < m) : price m cost (ent R) (bas B) (1 + wide + q) = cost (1 + wide + q) + lam m wide bs cost R B q := by
  rw [price_dual h.tab cost (by omega), sum_single hq fun i hi hne => ?_]
  · rw [M_spare L hq hq, if_pos rfl]
    unfold lam
    grind
  · rw [M_spare L hi hq, if_neg (Ne.symm hne)]
    grind
end
/-! ### what is told of inequalities -/
/-- weights that bar them -/
def Barred (m wide : Nat) (A : List (List Rat)) (bs : List Rat) : Prop :=
  ∃ l : Nat → Rat, (∀ i, i < m → 0 ≤ l i) ∧ (∀ k, k < wide → 0 ≤ Cm.sumTo m fun i => l i * ent A i k) ∧ (Cm.sumTo m fun i => l i * vec bs i) < 0
/-- the least cost, by values and by weights -/
def Least (m wide : Nat) (A : List (List Rat)) (bs cs x : List Rat) (v : Rat) : Prop :=
  x.length = wide ∧ (∀ k, k < wide → 0 ≤ vec x k) ∧ (∀ i, i < m → (Cm.sumTo wide fun k => ent A i k * vec x k) ≤ vec bs i) ∧ v = (Cm.sumTo wide fun k => vec cs k * vec x k) ∧
  ∃ l : Nat → Rat, (∀ i, i < m → 0 ≤ l i) ∧ (∀ k, k < wide → 0 ≤ vec cs k + Cm.sumTo m fun i => l i * ent A i k) ∧ v = -(Cm.sumTo m fun i => l i * vec bs i)
def fills (m wide : Nat) : List Rat := List.replicate (1 + wide + m) 0 ++ List.replicate m 1
def goals (m : Nat) (cs : List Rat) : List Rat := 0 :: cs ++ List.replicate (2 * m) 0
theorem vec_rep {q : Rat} {n j : Nat} : vec (List.replicate n q) j = if j < n then q else 0 := by
  by_cases h : j < n
  · rw [if_pos h]
    exact vec_at (by rw [List.getElem?_replicate, if_pos h])
  · rw [if_neg h]
    exact vec_over (by rw [List.length_replicate]; omega)
theorem fills_vec (m wide j : Nat) : vec (fills m wide) j = if 1 + wide + m ≤ j ∧ j < 1 + wide + m + m then 1 else 0 := by
  unfold fills
  by_cases h : j < 1 + wide + m
  · rw [vec_left (by rw [List.length_replicate]; exact h), vec_rep, if_pos h, if_neg (by omega)]
  · have e := vec_right (r := List.replicate (1 + wide + m) (0 : Rat)) (s := List.replicate m 1) (j - (1 + wide + m))
    rw [List.length_replicate, show 1 + wide + m + (j - (1 + wide + m)) = j by omega] at e
    rw [e, vec_rep]
    by_cases h2 : j < 1 + wide + m + m
    · rw [if_pos (by omega), if_pos ⟨by omega, h2⟩]
    · rw [if_neg (by omega), if_neg (by omega)]
theorem fills_len (m wide : Nat) : (fills m wide).length = 1 + wide + m + m := by
  unfold fills
  rw [List.length_append, List.length_replicate, List.length_replicate]
theorem fills_fee (m wide : Nat) : Fee (fills m wide) ∧ ∀ j, 0 ≤ vec (fills m wide) j := by
  refine ⟨fun j => ?_, fun j => ?_⟩
  · rw [fills_vec]
    split
    · exact ⟨⟨1, rfl⟩, by constructor <;> decide⟩
    · exact ⟨⟨0, rfl⟩, by constructor <;> decide⟩
  · rw [fills_vec]
    split <;> decide
section
variable {m wide : Nat} {A : List (List Rat)} {bs cs : List Rat} {R : List (List Rat)} {B : List Nat}
theorem goals_len (h : cs.length = wide) : (goals m cs).length = 1 + wide + m + m := by
  unfold goals
  rw [List.length_append, List.length_cons, List.length_replicate, h]
  omega
theorem goals_zero : vec (goals m cs) 0 = 0 := rfl
theorem goals_x (h : cs.length = wide) {k : Nat} (hk : k < wide) : vec (goals m cs) (1 + k) = vec cs k := by
  unfold goals
  rw [vec_left (by rw [List.length_cons]; omega), Nat.add_comm, vec_succ]
theorem goals_over (h : cs.length = wide) {j : Nat} (hj : 1 + wide ≤ j) : vec (goals m cs) j = 0 := by
  unfold goals
  have e := vec_right (r := (0 : Rat) :: cs) (s := List.replicate (2 * m) 0) (j - (1 + wide))
  rw [List.length_cons, h, show wide + 1 + (j - (1 + wide)) = j by omega] at e
  rw [e, vec_rep]
  split <;> rfl
theorem goals_fee (h : cs.length = wide) (hf : ∀ k, IsInt (vec cs k) ∧ Ab 1000 (vec cs k)) (h0 : ∀ k, 0 ≤ vec cs k) : Fee (goals m cs) ∧ ∀ j, 0 ≤ vec (goals m cs) j := by
  have key : ∀ j, vec (goals m cs) j = 0 ∨ ∃ k, vec (goals m cs) j = vec cs k := fun j => by
    by_cases hj : j = 0
    · rw [hj]
      exact .inl goals_zero
    · by_cases h1 : j < 1 + wide
      · refine .inr ⟨j - 1, ?_⟩
        have := goals_x (m := m) h (k := j - 1) (by omega)
        rw [show 1 + (j - 1) = j by omega] at this
        exact this
      · exact .inl (goals_over h (by omega))
  refine ⟨fun j => ?_, fun j => ?_⟩
  · rcases key j with e | ⟨k, e⟩
    · rw [e]
      exact ⟨⟨0, rfl⟩, by constructor <;> decide⟩
    · rw [e]
      exact hf k
  · rcases key j with e | ⟨k, e⟩
    · rw [e]
      exact Rat.le_refl
    · rw [e]
      exact h0 k
/-- no values: the first phase ends above 0 -/
theorem barred_of (L : Lp m wide A bs) (h : JJ m (1 + wide + m + m) (ent (mBegun A bs)) (fil m wide) R B) (opt : ∀ j, 1 ≤ j → j < 1 + wide + m → 0 ≤ price m (vec (fills m wide)) (ent R) (bas B) j) (hne : price m (vec (fills m wide)) (ent R) (bas B) 0 ≠ 0) : Barred m wide A bs := by
  have z : ∀ j, j < 1 + wide + m → vec (fills m wide) j = 0 := fun j hj => by rw [fills_vec, if_neg (by omega)]
  refine ⟨lam m wide bs (vec (fills m wide)) R B, fun i hi => ?_, fun k hk => ?_, ?_⟩
  · have := opt (1 + wide + i) (by omega) (by omega)
    rw [price_spare L h _ hi, z _ (by omega)] at this
    grind
  · have := opt (1 + k) (by omega) (by omega)
    rw [price_x L h _ hk, z _ (by omega)] at this
    grind
  · have e := price_zero L h (vec (fills m wide))
    rw [z 0 (by omega)] at e
    have h1 : 0 ≤ Cm.sumTo m fun p => vec (fills m wide) (bas B p) * ent R p 0 := sum_nonneg fun p hp => Rat.mul_nonneg ((fills_fee m wide).2 _) (h.feas p hp)
    have h2 : price m (vec (fills m wide)) (ent R) (bas B) 0 = - Cm.sumTo m fun p => vec (fills m wide) (bas B p) * ent R p 0 := by
      unfold price
      rw [z 0 (by omega)]
      grind
    grind
theorem sum_zero_of {n : Nat} {g : Nat → Rat} (h0 : ∀ i, i < n → 0 ≤ g i) (hs : Cm.sumTo n g = 0) : ∀ i, i < n → g i = 0 := by
  induction n with
  | zero => exact fun i hi => by omega
  | succ n ih =>
    have h1 := sum_nonneg fun i hi => h0 i (show i < n + 1 by omega)
    have h2 := h0 n (by omega)
    have h3 : 0 ≤ Cm.sumTo n g := sum_nonneg fun i hi => h0 i (by omega)
    simp only [Cm.sumTo] at hs
    intro i hi
    by_cases e : i = n
    · rw [e]
      grind
    · exact ih (fun i hi => h0 i (by omega)) (by grind) i (by omega)
/-- the fills are worth nothing -/
theorem fills_null (h : JJ m (1 + wide + m + m) (ent (mBegun A bs)) (fil m wide) R B) (z : price m (vec (fills m wide)) (ent R) (bas B) 0 = 0) : ∀ p, p < m → 1 + wide + m ≤ bas B p → ent R p 0 = 0 := by
  have e : (Cm.sumTo m fun p => vec (fills m wide) (bas B p) * ent R p 0) = 0 := by
    unfold price at z
    rw [fills_vec, if_neg (by omega)] at z
    grind
  intro p hp hb
  have := sum_zero_of (fun p hp => Rat.mul_nonneg ((fills_fee m wide).2 (bas B p)) (h.feas p hp)) e p hp
  rw [fills_vec, if_pos ⟨hb, h.tab.bn p hp⟩] at this
  grind
/-- the fills among the first k rows stand alone -/
structure J2 (m wide : Nat) (A : List (List Rat)) (bs : List Rat) (k : Nat) (R : List (List Rat)) (B : List Nat) : Prop where
  jj : JJ m (1 + wide + m + m) (ent (mBegun A bs)) (fil m wide) R B
  null : ∀ p, p < m → 1 + wide + m ≤ bas B p → ent R p 0 = 0
  bare : ∀ p, p < k → p < m → 1 + wide + m ≤ bas B p → ∀ j, 1 ≤ j → j < 1 + wide + m → ent R p j = 0
theorem J2.keep {k : Nat} (h : J2 m wide A bs k R B) (hk : bas B k < 1 + wide + m ∨ ∀ j, 1 ≤ j → j < 1 + wide + m → ent R k j = 0) : J2 m wide A bs (k + 1) R B := by
  refine ⟨h.jj, h.null, fun p hp hpm hb j h1 h2 => ?_⟩
  by_cases e : p = k
  · subst e
    rcases hk with q | q
    · omega
    · exact q j h1 h2
  · exact h.bare p (by omega) hpm hb j h1 h2
theorem J2.turn {k c : Nat} (h : J2 m wide A bs k R B) (hk : k < m) (hc1 : 1 ≤ c) (hc : c < 1 + wide + m) (hb : 1 + wide + m ≤ bas B k) (ne : ent R k c ≠ 0) : J2 m wide A bs (k + 1) (mTurn R k c) (B.set k c) := by
  have z := h.null k hk hb
  have hl := h.jj.rl
  have hbl := h.jj.bl
  have et : ∀ p j, p < m → j < 1 + wide + m + m → ent (mTurn R k c) p j = pivT (ent R) k c p j := fun p j hp hj => ent_turn h.jj.row (by omega) (by omega) hj
  have eb : ∀ p, p < m → bas (B.set k c) p = pivB (bas B) k c p := fun p hp => bas_set (by omega)
  refine ⟨h.jj.turn0 (setup m wide) hk (by omega) ne z, fun p hp hbp => ?_, fun p hpk hp hbp j h1 h2 => ?_⟩
  · rw [eb p hp] at hbp
    rw [et p 0 hp (by omega)]
    unfold pivB at hbp
    unfold pivT
    by_cases e : p = k
    · rw [if_pos e] at hbp
      omega
    · rw [if_neg e] at hbp
      rw [if_neg e, z, h.null p hp hbp, Rat.div_def]
      grind
  · rw [eb p hp] at hbp
    rw [et p j hp (by omega)]
    unfold pivB at hbp
    unfold pivT
    by_cases e : p = k
    · rw [if_pos e] at hbp
      omega
    · rw [if_neg e] at hbp
      rw [if_neg e, h.bare p (by omega) hp hbp j h1 h2, h.bare p (by omega) hp hbp c hc1 hc]
      grind
/-- behind them all: the second phase's frames -/
theorem J2.step {k c : Nat} (h : J2 m wide A bs m R B) (hc1 : 1 ≤ c) (hc : c < 1 + wide + m) (Lv : Leaves m (ent R) (bas B) c k) : J2 m wide A bs m (mTurn R k c) (B.set k c) := by
  have hl := h.jj.rl
  have hbl := h.jj.bl
  have hk := Lv.lt
  have et : ∀ p j, p < m → j < 1 + wide + m + m → ent (mTurn R k c) p j = pivT (ent R) k c p j := fun p j hp hj => ent_turn h.jj.row (by omega) (by omega) hj
  have eb : ∀ p, p < m → bas (B.set k c) p = pivB (bas B) k c p := fun p hp => bas_set (by omega)
  have old : ∀ p, p < m → 1 + wide + m ≤ bas (B.set k c) p → p ≠ k ∧ 1 + wide + m ≤ bas B p := fun p hp hbp => by
    rw [eb p hp] at hbp
    unfold pivB at hbp
    by_cases e : p = k
    · rw [if_pos e] at hbp
      omega
    · rw [if_neg e] at hbp
      exact ⟨e, hbp⟩
  refine ⟨h.jj.turn (setup m wide) (by omega) Lv, fun p hp hbp => ?_, fun p _ hp hbp j h1 h2 => ?_⟩
  · obtain ⟨e, hb⟩ := old p hp hbp
    rw [et p 0 hp (by omega)]
    unfold pivT
    rw [if_neg e, h.null p hp hb, h.bare p hp hp hb c hc1 hc]
    grind
  · obtain ⟨e, hb⟩ := old p hp hbp
    rw [et p j hp (by omega)]
    unfold pivT
    rw [if_neg e, h.bare p hp hp hb j h1 h2, h.bare p hp hp hb c hc1 hc]
    grind
/-- the values that a frame tells -/
def told (m wide : Nat) (R : List (List Rat)) (B : List Nat) : List Rat := (List.range wide).map fun k => Cm.sumTo m fun p => if bas B p = 1 + k then ent R p 0 else 0
theorem told_vec {k : Nat} (hk : k < wide) : vec (told m wide R B) k = Cm.sumTo m fun p => if bas B p = 1 + k then ent R p 0 else 0 := by
  refine vec_at ?_
  unfold told
  rw [List.getElem?_map, List.getElem?_range hk]
  rfl
/-- a sum over the basic columns, by values -/
theorem by_values (g : Nat → Rat) : (Cm.sumTo wide fun k => g k * vec (told m wide R B) k) = Cm.sumTo m fun p => if 1 ≤ bas B p ∧ bas B p < 1 + wide then g (bas B p - 1) * ent R p 0 else 0 := by
  have e : (Cm.sumTo wide fun k => g k * vec (told m wide R B) k) = Cm.sumTo wide fun k => Cm.sumTo m fun p => if bas B p = 1 + k then g k * ent R p 0 else 0 := sum_congr fun k hk => by
    rw [told_vec hk, ← sum_mul]
    refine sum_congr fun p _ => ?_
    split <;> grind
  rw [e, sum_swap]
  refine sum_congr fun p _ => ?_
  by_cases h : 1 ≤ bas B p ∧ bas B p < 1 + wide
  · rw [if_pos h, sum_single (k := bas B p - 1) (by omega) fun k hk hne => if_neg (by omega), if_pos (by omega)]
  · rw [if_neg h]
    exact sum_zero fun k hk => if_neg (by omega)
theorem least_of (L : Lp m wide A bs) (h : J2 m wide A bs m R B) (hb1 : ∀ p, p < m → 1 ≤ bas B p) (hcl : cs.length = wide) (opt : ∀ j, 1 ≤ j → j < 1 + wide + m → 0 ≤ price m (vec (goals m cs)) (ent R) (bas B) j) :
    Least m wide A bs cs (told m wide R B) (0 - price m (vec (goals m cs)) (ent R) (bas B) 0) := by
  have J := h.jj
  -- the sum of a row by the values
  have rowSum : ∀ i, i < m → ∃ u, 0 ≤ u ∧ (Cm.sumTo wide fun k => ent A i k * vec (told m wide R B) k) + u = vec bs i := fun i hi => by
    refine ⟨Cm.sumTo m fun p => if bas B p = 1 + wide + i then ent R p 0 else 0, sum_nonneg fun p hp => ?_, ?_⟩
    · split
      · exact J.feas p hp
      · exact Rat.le_refl
    · rw [by_values, ← sum_add]
      have e := J.tab.back i 0 hi (by omega)
      rw [M_zero L hi] at e
      have e2 : (Cm.sumTo m fun p => ent R p 0 * ent (mBegun A bs) i (bas B p)) = sg bs i * Cm.sumTo m fun p => (if 1 ≤ bas B p ∧ bas B p < 1 + wide then ent A i (bas B p - 1) * ent R p 0 else 0) + (if bas B p = 1 + wide + i then ent R p 0 else 0) := by
        rw [← sum_mul]
        refine sum_congr fun p hp => ?_
        have hb := hb1 p hp
        have hbn := J.tab.bn p hp
        by_cases c1 : bas B p < 1 + wide
        · rw [if_pos ⟨hb, c1⟩, if_neg (by omega)]
          have := M_x L hi (k := bas B p - 1) (by omega)
          rw [show 1 + (bas B p - 1) = bas B p by omega] at this
          rw [this]
          grind
        · rw [if_neg (by omega)]
          by_cases c2 : bas B p < 1 + wide + m
          · have := M_spare L hi (q := bas B p - (1 + wide)) (by omega)
            rw [show 1 + wide + (bas B p - (1 + wide)) = bas B p by omega] at this
            rw [this]
            by_cases c3 : bas B p = 1 + wide + i
            · rw [if_pos (by omega), if_pos c3]
              grind
            · rw [if_neg (by omega), if_neg c3]
              grind
          · rw [h.null p hp (by omega), if_neg (by omega)]
            grind
      rw [e2] at e
      have hs := bSign_ne (vec bs i)
      have hs' : sg bs i * sg bs i = 1 := hs
      generalize (Cm.sumTo m fun p => (if 1 ≤ bas B p ∧ bas B p < 1 + wide then ent A i (bas B p - 1) * ent R p 0 else 0) + (if bas B p = 1 + wide + i then ent R p 0 else 0)) = X at e ⊢
      have e3 : sg bs i * (sg bs i * X) = sg bs i * (sg bs i * vec bs i) := by rw [e]
      grind
  refine ⟨by unfold told; rw [List.length_map, List.length_range], fun k hk => ?_, fun i hi => ?_, ?_, lam m wide bs (vec (goals m cs)) R B, fun i hi => ?_, fun k hk => ?_, ?_⟩
  · rw [told_vec hk]
    exact sum_nonneg fun p hp => by
      split
      · exact J.feas p hp
      · exact Rat.le_refl
  · obtain ⟨u, h1, h2⟩ := rowSum i hi
    grind
  · rw [by_values]
    unfold price
    rw [goals_zero]
    have e : (Cm.sumTo m fun p => vec (goals m cs) (bas B p) * ent R p 0) = Cm.sumTo m fun p => if 1 ≤ bas B p ∧ bas B p < 1 + wide then vec cs (bas B p - 1) * ent R p 0 else 0 := sum_congr fun p hp => by
      have hb := hb1 p hp
      by_cases c1 : bas B p < 1 + wide
      · rw [if_pos ⟨hb, c1⟩]
        have := goals_x (m := m) hcl (k := bas B p - 1) (by omega)
        rw [show 1 + (bas B p - 1) = bas B p by omega] at this
        rw [this]
      · rw [if_neg (by omega), goals_over hcl (by omega)]
        grind
    rw [e]
    grind
  · have := opt (1 + wide + i) (by omega) (by omega)
    rw [price_spare L J _ hi, goals_over hcl (by omega)] at this
    grind
  · have := opt (1 + k) (by omega) (by omega)
    rw [price_x L J _ hk, goals_x hcl hk] at this
    exact this
  · rw [price_zero L J, goals_zero]
    grind
end
end Cs
set_option Elab.async false
set_option linter.all false
set_option maxRecDepth 100000
set_option maxHeartbeats 40000000
/-! Outcome, solved -/
namespace Cs
open PySem PySem.Spec PyProof.Rows L2
/-- the class Outcome -/
structure OutC (K : PySem.W.Frag) (C : Addr) : Prop where
  cl : Cls K C
  nW : NoAttr K C "word"
  nP : NoAttr K C "point"
  nC : NoAttr K C "cost"
  nG : NoAttr K C "weights"
def ouF (w p c g : V) : List (Str × V) := [("word", w), ("point", p), ("cost", c), ("weights", g)]
theorem ouF_put (w p c g : V) : putF "weights" g (putF "cost" c (putF "point" p (putF "word" w []))) = ouF w p c g := by
  have h1 : ¬ (("word" : Str) = "point") := by decide +kernel
  have h2 : ¬ (("word" : Str) = "cost") := by decide +kernel
  have h3 : ¬ (("point" : Str) = "cost") := by decide +kernel
  have h4 : ¬ (("word" : Str) = "weights") := by decide +kernel
  have h5 : ¬ (("point" : Str) = "weights") := by decide +kernel
  have h6 : ¬ (("cost" : Str) = "weights") := by decide +kernel
  simp only [putF, if_neg h1, if_neg h2, if_neg h3, if_neg h4, if_neg h5, if_neg h6, ouF]
/-- what is found: nothing, or values and a cost -/
def OutAt (K : PySem.W.Frag) (C : Addr) (X : List Addr) (H : Hp) (v : V) : Option (List Rat × Rat) → Prop
  | none => ∃ a dx g, v = .ref a ∧ H a = some (.ins C dx (ouF (.str "none") .non .non g))
  | some (x, q) => ∃ a dx p c g, v = .ref a ∧ H a = some (.ins C dx (ouF (.str "best") p c g)) ∧ Dp K (cutH X H) p (fTup x) ∧ Fr K H c q
/-! ### helpers of the reading -/
theorem dp_rep {K : PySem.W.Frag} {H : Hp} {v : V} {q : Rat} (h : Fr K H v q) : ∀ n : Nat, DpAll K H (List.replicate n v) (frs (List.replicate n q))
  | 0 => .nil
  | n + 1 => .cons h.dp (dp_rep h n)
theorem flat_rep (v : V) : ∀ n : Nat, (List.replicate n [v]).flatten = List.replicate n v
  | 0 => rfl
  | n + 1 => by
    rw [List.replicate_succ, List.replicate_succ, List.flatten_cons, flat_rep v n]
    rfl
theorem rg_nats (w : Nat) (hw : 1 ≤ w) : rgV 1 (w : Int) = (List.range' 1 (w - 1)).map vNat := by
  unfold rgV
  rw [List.range'_eq_map_range, List.map_map, show ((w : Int) - 1).toNat = w - 1 by omega]
  rfl
theorem frs_append (a b : List Rat) : frs (a ++ b) = frs a ++ frs b := List.map_append
theorem sz_int {q : Rat} (h : Cm.IsInt q ∧ Cm.Ab 100 q) : Sz 400 q := by
  have h1 := sz_quot (k := 100) (X := 100) (q := q) (D := 1) (N := q) ⟨1, rfl⟩ h.1 (by decide) (by grind) (by constructor <;> decide) h.2 (by decide +kernel)
  exact h1.mono (by decide)
theorem lp_bnd {m wide : Nat} {A : List (List Rat)} {bs : List Rat} (L : Lp m wide A bs) : SzAll 400 bs := fun q hq => by
  obtain ⟨i, hi, e⟩ := List.mem_iff_getElem.mp hq
  have := L.bi i
  rw [vec_at (q := q) (by rw [List.getElem?_eq_getElem hi, e])] at this
  exact sz_int this
theorem lp_num {m wide : Nat} {A : List (List Rat)} {bs : List Rat} (L : Lp m wide A bs) : ∀ r ∈ A, r.length ≤ 300 ∧ SzAll 400 r := fun r hr => by
  have h8 := L.w8
  refine ⟨by rw [L.row r hr]; omega, fun q hq => ?_⟩
  obtain ⟨i, hi, e⟩ := List.mem_iff_getElem.mp hr
  obtain ⟨j, hj, e2⟩ := List.mem_iff_getElem.mp hq
  have := L.ai i j
  rw [ent_at (r := r) (by rw [List.getElem?_eq_getElem hi, e]), vec_at (q := q) (by rw [List.getElem?_eq_getElem hj, e2])] at this
  exact sz_int this
theorem mCol_some {R : List (List Rat)} {k first c : Nat} (h : mCol R k first = some c) : 1 ≤ c ∧ c < first ∧ ent R k c ≠ 0 := by
  unfold mCol at h
  have hm := List.mem_of_mem_head? (by rw [h]; rfl : c ∈ ((List.range' 1 (first - 1)).filter fun c => decide ((R.getD k []).getD c 0 ≠ 0)).head?)
  obtain ⟨h1, h2⟩ := List.mem_filter.mp hm
  have h3 := List.mem_range'_1.mp h1
  exact ⟨by omega, by omega, of_decide_eq_true h2⟩
theorem mCol_none {R : List (List Rat)} {k first : Nat} (h : mCol R k first = none) : ∀ j, 1 ≤ j → j < first → ent R k j = 0 := fun j h1 h2 => by
  unfold mCol at h
  rw [List.head?_eq_none_iff, List.filter_eq_nil_iff] at h
  have := h j (List.mem_range'_1.mpr (by omega))
  simpa [ent] using this
theorem dc_it {J : It} {n : Nat} {G : Hp → Prop} {Y : Nat → Hp → V → Hp → Prop} (w : Walk J n G Y) {g : TG} {tt : TT} {tk tv : TE} {vs : List Nat} {σ : L2.St} {H1 : Hp} {D : Addr} {Qd : Hp → Prop} (Pv : Nat → Hp → Prop) (h0 : Pv 0 (upd H1 D (.dK []))) (hG : ∀ i H, i ≤ n → Pv i H → G H)
    (hs : ∀ i x H H', i < n → Pv i H → Y i H x H' → g x (wipe σ vs) H' fun σ2 H2 => wipe σ2 vs = wipe σ vs ∧ tt σ2 H2 fun b H3 =>
      if b = true then tk σ2 H3 fun y H4 => tv σ2 H4 fun z H5 => ∃ kvs k, y = kV k ∧ H5 D = some (.dK kvs) ∧ kvs.length < sizeLine ∧ Pv (i + 1) (upd H5 D (.dK (putK kvs k z))) else Pv (i + 1) H3) (hd : ∀ H, Pv n H → Qd H) :
    ∃ W : Nat → Nat → Hp → Prop, (∃ m, W 0 m (upd H1 D (.dK []))) ∧ ∀ i m H, W i m H →
      (J.stop i H ∧ Qd H) ∨ (J.go i H ∧ ∃ Nx : Hp → Prop, (∀ H', Nx H' → ∃ m', m' < m ∧ W (i + 1) m' H') ∧ ∀ x H', J.yld i H x H' → g x (wipe σ vs) H' fun σ2 H2 => wipe σ2 vs = wipe σ vs ∧ tt σ2 H2 fun b H3 =>
        if b = true then tk σ2 H3 fun y H4 => tv σ2 H4 fun z H5 => ∃ kvs k, y = kV k ∧ H5 D = some (.dK kvs) ∧ kvs.length < sizeLine ∧ Nx (upd H5 D (.dK (putK kvs k z))) else Nx H3) := by
  refine ⟨fun i m H => m = n - i ∧ i ≤ n ∧ Pv i H, ⟨n, by simp, Nat.zero_le _, h0⟩, ?_⟩
  rintro i m H ⟨rfl, hi, p⟩
  have q := hG i H hi p
  by_cases hlt : i < n
  · refine .inr ⟨w.goes i H hlt q, Pv (i + 1), fun H' p' => ⟨n - (i + 1), by omega, rfl, hlt, p'⟩, fun x H' y => hs i x H H' hlt p (w.yields i H x H' hlt q y)⟩
  · have e : i = n := by omega
    subst e
    exact .inl ⟨w.stops H q, hd H p⟩
def LpOut (m wide : Nat) (A : List (List Rat)) (bs cs : List Rat) : Option (List Rat × Rat) → Prop
  | none => Barred m wide A bs
  | some (x, q) => Least m wide A bs cs x q ∧ SzAll 400 x ∧ Sz 400 q
theorem sz_neg {q : Rat} {n : Nat} (h : Sz n q) : Sz n (0 - q) := by
  have e : 0 - q = -q := by grind
  rw [e]
  exact ⟨by rw [Rat.neg_num, Int.natAbs_neg]; exact h.1, by rw [Rat.neg_den]; exact h.2⟩
theorem sz_zero {n : Nat} (hn : 1 ≤ n) : Sz n 0 := ⟨by show 0 < _; exact Nat.pow_pos (by decide), by show 1 < _; exact Nat.one_lt_pow (by omega) (by decide)⟩
theorem told_sz {m n wide : Nat} {M : Nat → Nat → Rat} {f : Nat → Nat} {R : List (List Rat)} {B : List Nat} (Pl : Plain m n M) (h : JJ m n M f R B) (hn : 0 < n) : SzAll 400 (told m wide R B) := fun q hq => by
  obtain ⟨k, hk, e⟩ := List.mem_iff_getElem.mp hq
  have hk' : k < wide := by
    unfold told at hk
    rw [List.length_map, List.length_range] at hk
    exact hk
  have e2 := told_vec (m := m) (R := R) (B := B) hk'
  rw [vec_at (q := q) (by rw [List.getElem?_eq_getElem hk, e])] at e2
  rw [e2]
  by_cases hp : ∃ p, p < m ∧ bas B p = 1 + k
  · obtain ⟨p, hp, hb⟩ := hp
    rw [Cm.sum_single hp fun p' hp' hne => if_neg fun z => hne (h.tab.inj hp' hp (by rw [z, hb])), if_pos hb]
    exact (ent_sz Pl h hp hn).mono (by decide)
  · rw [Cm.sum_zero fun p hp' => if_neg fun z => hp ⟨p, hp', z⟩]
    exact sz_zero (by decide)
section
variable {P : Program} {w : World} {K : PySem.W.Frag} {mg : Str → Option Value} {base : Heap}
abbrev sOuInit : Stmt := inClass (topS 47) 0
theorem scOuInit : FnScope ["self", "word", "values", "cost", "weights"] ["self", "word", "values", "cost", "weights"] (defScope sOuInit) := ⟨rfl, rfl, rfl, by decide +kernel, rfl, by decide +kernel, by decide +kernel⟩
def spOuInit (C : Addr) : Sp := fun vs H Q _ => ∃ (p dx : Addr) (w' pt c g : V), vs = [.ref p, w', pt, c, g] ∧ H p = some (.ins C dx []) ∧ ∀ H', H' p = some (.ins C dx (ouF w' pt c g)) → (∀ b o, H b = some o → b ≠ p → H' b = some o) → Q .non H'
theorem c_ouinit {C : Addr} (D : InitAt K mg C "Outcome" "Outcome.__init__" sOuInit ["self", "word", "values", "cost", "weights"]) (T : OutC K C) : ICal P w K mg base 1 C "Outcome" ["self", "word", "values", "cost", "weights"] (spOuInit C) := by
  refine D.cal fun f fd F => ?_
  refine F.ok scOuInit (fun vs H Q E h => ?_) (fun cdv A outer s H vs Q E hr h => ?_)
  · obtain ⟨p, dx, a, b, c, d, rfl, _⟩ := h
    rfl
  · obtain ⟨p, dx, a, b, c, d, rfl, hp, q⟩ := h
    refine ⟨_, pss_cons (ps_fld (pv 0) (pv 1) rfl) (pss_cons (ps_fld (pv 0) (pv 2) rfl) (pss_cons (ps_fld (pv 0) (pv 3) rfl) (pss_one (ps_fld (pv 0) (pv 4) rfl)))), ?_⟩
    refine ⟨_, rfl, _, rfl, p, C, dx, [], rfl, hp, T.cl, T.nW, (by decide), _, rfl, _, rfl, p, C, dx, _, rfl, upd_same, T.cl, T.nP, ?_, _, rfl, _, rfl, p, C, dx, _, rfl, upd_same, T.cl, T.nC, ?_, _, rfl, _, rfl, p, C, dx, _, rfl, upd_same, T.cl, T.nG, ?_, ?_⟩
    · show 1 < 1000
      decide
    · have h1 : ¬ (("word" : Str) = "point") := by decide +kernel
      simp only [putF, if_neg h1, List.length_cons, List.length_nil]
      decide
    · have h1 : ¬ (("word" : Str) = "point") := by decide +kernel
      have h2 : ¬ (("word" : Str) = "cost") := by decide +kernel
      have h3 : ¬ (("point" : Str) = "cost") := by decide +kernel
      simp only [putF, if_neg h1, if_neg h2, if_neg h3, List.length_cons, List.length_nil]
      decide
    · refine q _ ?_ fun c o e n => ?_
      · rw [upd_same, ouF_put]
      · rw [upd_ne n, upd_ne n, upd_ne n, upd_ne n]
        exact e
abbrev sSolved : Stmt := topS 49
abbrev nSolved : List Str := ["numbers", "bounds", "costs", "many", "wide", "basis", "frame", "fills", "prices", "goals", "told", "values", "index", "bound", "row", "column"]
theorem scSolved : FnScope nSolved ["numbers", "bounds", "costs"] (defScope sSolved) := ⟨rfl, rfl, rfl, by decide +kernel, rfl, by decide +kernel, by decide +kernel⟩
def spSolved (K : PySem.W.Frag) (C : Addr) : Sp := fun vs H Q _ => ∃ (X : List Addr) (vn vb vc : V) (m wide : Nat) (numbers : List (List Rat)) (bounds costs : List Rat), vs = [vn, vb, vc] ∧ Xin X H ∧ Dp K (cutH X H) vn (fRows numbers) ∧ Dp K (cutH X H) vb (fRow bounds) ∧ Dp K (cutH X H) vc (fRow costs) ∧
  Lp m wide numbers bounds ∧ costs.length = wide ∧ (∀ k, Cm.IsInt (vec costs k) ∧ Cm.Ab 1000 (vec costs k)) ∧ (∀ k, 0 ≤ vec costs k) ∧ ∀ H' v o, Same H H' → OutAt K C X H' v o → LpOut m wide numbers bounds costs o → Q v H'
theorem c_solved {CF CO : Addr} (D : DefAt K mg "solved" sSolved ["numbers", "bounds", "costs"]) (TF : FrameC K CF) (TO : OutC K CO) (IF : ICal P w K mg base 1 CF "Frame" ["self", "rows", "basis"] (spFrInit CF)) (IO : ICal P w K mg base 1 CO "Outcome" ["self", "word", "values", "cost", "weights"] (spOuInit CO))
    (Bg : Cal P w K mg base 4 "begun" ["numbers", "bounds"] (spBegun K)) (Se : Cal P w K mg base 6 "settled" ["frame", "costs", "columns"] (spSettled K CF)) (Wi : Cal P w K mg base 6 "without_fills" ["frame", "first"] (spWithout K CF)) (Mi : Cal P w K mg base 3 "minus" ["one", "other"] (spTwo K (· - ·)))
    (me : mg "enumerate" = none) (mz : mg "zip" = none) (ml : mg "len" = none) (mr : mg "range" = none) (mli : mg "list" = none) (mt : mg "tuple" = none) (Z : Cst K mg "ZERO" 0) (O : Cst K mg "ONE" 1) :
    Cal P w K mg base 7 "solved" ["numbers", "bounds", "costs"] (spSolved K CO) := by
  refine D.cal fun f fd F => ?_
  refine F.ok scSolved (fun vs H Q E h => ?_) (fun cdv A outer s H vs Q E hr h => ?_)
  · obtain ⟨X, vn, vb, vc, m, wide, numbers, bounds, costs, rfl, _⟩ := h
    rfl
  · obtain ⟨X, vn, vb, vc, m, wide, numbers, bounds, costs, rfl, hX, hn, hb, hc, L, hcl, hfee, hpos, q⟩ := h
    refine ⟨_, pss_cons (ps_asg (pe_tup (pa_cons (pe_callB call_len_seq (by rfl) ml PySem.boot_len (pa_cons (pv 0) pa_nil)) (pa_cons (pe_callB call_len_seq (by rfl) ml PySem.boot_len (pa_cons (pv 2) pa_nil)) pa_nil)))
        (pg_tup rfl (pgs_cons (pg_name (i := 3) scSolved.nd rfl (.inr rfl)) (pgs_cons (pg_name (i := 4) scSolved.nd rfl (.inr rfl)) pgs_nil))))
      (pss_cons (ps_setLc (i := 5) (own := [("index", 12), ("bound", 13)]) (g := gTup K 2 (gCons (gName 12) (gCons (gName 13) gNil))) (tt := tYes) rfl scSolved.nd rfl rfl (sw_true rfl rfl rfl (by decide +kernel)) (pi_enum (by rfl) me (pa_cons (pv 1) pa_nil))
        (blkOk_by (own := [("index", 12), ("bound", 13)]) (N := nSolved) (sc := defScope sSolved) (by decide +kernel)) (fun _ _ _ _ _ => pg_tup rfl (pgs_cons (pg_name (i := 12) scSolved.nd rfl (.inl rfl)) (pgs_cons (pg_name (i := 13) scSolved.nd rfl (.inl rfl)) pgs_nil)))
        (fun _ _ _ _ _ => pts_nil) (fun _ _ _ _ _ => pe_op op_add (pe_op op_add (pe_op op_add pe_int (pv 4)) (pv 12)) (pe_ifExp (pt_cmpR op_lt (pe_num K 13) pe_int (nomark _)) (pv 3) pe_int)))
      (pss_cons (ps_set (i := 6) scSolved.nd rfl (.inl rfl) (pe_new IF hr (pa_cons (pe_cal Bg hr (pa_cons (pv 0) (pa_cons (pv 1) pa_nil))) (pa_cons (pv 5) pa_nil))))
      (pss_cons (ps_set (i := 7) scSolved.nd rfl (.inl rfl) (pe_op op_cat (pe_op op_rep (pe_lst (pa_cons (pe_cst Z) pa_nil)) (pe_op op_add (pe_op op_add pe_int (pv 4)) (pv 3))) (pe_op op_rep (pe_lst (pa_cons (pe_cst O) pa_nil)) (pv 3))))
      (pss_cons (ps_asg (pe_cal Se hr (pa_cons (pv 6) (pa_cons (pv 7) (pa_cons (pe_listRg rfl (by rfl) mli (prg_2 (by rfl) mr pe_int (pe_op op_add (pe_op op_add pe_int (pv 4)) (pv 3)))) pa_nil))))
        (pg_tup rfl (pgs_cons (pg_name (i := 6) scSolved.nd rfl (.inl rfl)) (pgs_cons (pg_name (i := 8) scSolved.nd rfl (.inl rfl)) pgs_nil))))
      (pss_cons (ps_if (pt_cmpR (op_neK K hr.units) (pe_ix (ix_lstK K) (pv 8) pe_int (fun _ _ => rfl)) (pe_cst Z) (nomark _))
        (pss_one (ps_ret (pe_new IO hr (pa_cons pe_str (pa_cons pe_non (pa_cons pe_non (pa_cons (pe_callTy call_tuple_of (by rfl) mt (by decide +kernel) (pa_cons (pe_slice sl_list (pv 8) (po_some (pe_op op_add pe_int (pv 4))) (po_some (pe_op op_add (pe_op op_add pe_int (pv 4)) (pv 3)))) pa_nil)) pa_nil))))))) pss_nil)
      (pss_cons (ps_set (i := 6) scSolved.nd rfl (.inl rfl) (pe_cal Wi hr (pa_cons (pv 6) (pa_cons (pe_op op_add (pe_op op_add pe_int (pv 4)) (pv 3)) pa_nil))))
      (pss_cons (ps_set (i := 9) scSolved.nd rfl (.inl rfl) (pe_op op_cat (pe_lst (pa_cons (pe_cst Z) (StX.pa_star (pv 2) pa_nil))) (pe_op op_rep (pe_lst (pa_cons (pe_cst Z) pa_nil)) (pe_op op_mul pe_int (pv 3)))))
      (pss_cons (ps_asg (pe_cal Se hr (pa_cons (pv 6) (pa_cons (pv 9) (pa_cons (pe_listRg rfl (by rfl) mli (prg_2 (by rfl) mr pe_int (pe_op op_add (pe_op op_add pe_int (pv 4)) (pv 3)))) pa_nil))))
        (pg_tup rfl (pgs_cons (pg_name (i := 6) scSolved.nd rfl (.inl rfl)) (pgs_cons (pg_name (i := 8) scSolved.nd rfl (.inl rfl)) pgs_nil))))
      (pss_cons (ps_if (pt_cmpR op_isN (pv 6) pe_non (nomark _)) (pss_one (ps_ret (pe_new IO hr (pa_cons pe_str (pa_cons pe_non (pa_cons pe_non (pa_cons pe_non pa_nil))))))) pss_nil)
      (pss_cons (ps_set (i := 10) scSolved.nd rfl (.inr rfl) (pe_dc (own := [("row", 14), ("column", 15)]) (g := gTup K 2 (gCons (gName 14) (gCons (gName 15) gNil))) (tt := tYes) rfl scSolved.nd (pi_zip (by rfl) mz (pa_cons (pe_fldK K (pv 6)) (pa_cons (pe_fldK K (pv 6)) pa_nil)))
        (blkOk_by (own := [("row", 14), ("column", 15)]) (N := nSolved) (sc := defScope sSolved) (by decide +kernel)) (fun _ _ _ _ _ => pg_tup rfl (pgs_cons (pg_name (i := 14) scSolved.nd rfl (.inl rfl)) (pgs_cons (pg_name (i := 15) scSolved.nd rfl (.inl rfl)) pgs_nil)))
        (fun _ _ _ _ _ => pts_nil) (fun _ _ _ _ _ => pv 15) (fun _ _ _ _ _ => pe_ix (ix_lstK K) (pv 14) pe_int (fun _ _ => rfl))))
      (pss_cons (ps_set (i := 11) scSolved.nd rfl (.inl rfl) (pe_callTy call_tuple_of (by rfl) mt (by decide +kernel) (pa_cons (pe_lc (own := [("index", 12)]) (g := gName 12) (tt := tYes) rfl scSolved.nd (pi_range1 (by rfl) mr (pa_cons (pv 4) pa_nil))
        (blkOk_by (own := [("index", 12)]) (N := nSolved) (sc := defScope sSolved) (by decide +kernel)) (fun _ _ _ _ _ => pg_name (i := 12) scSolved.nd rfl (.inl rfl)) (fun _ _ _ _ _ => pts_nil)
        (fun _ _ _ _ _ => pe_dget2 (hu_of hr) (pv 10) (pe_op op_add pe_int (pv 12)) (pe_cst Z) ⟨rfl, rfl, rfl, rfl⟩)) pa_nil)))
      (pss_one (ps_ret (pe_new IO hr (pa_cons pe_str (pa_cons (pv 11) (pa_cons (pe_cal Mi hr (pa_cons (pe_cst Z) (pa_cons (pe_ix (ix_lstK K) (pv 8) pe_int (fun _ _ => rfl)) pa_nil)))
        (pa_cons (pe_callTy call_tuple_of (by rfl) mt (by decide +kernel) (pa_cons (pe_slice sl_list (pv 8) (po_some (pe_op op_add pe_int (pv 4))) (po_some (pe_op op_add (pe_op op_add pe_int (pv 4)) (pv 3)))) pa_nil)) pa_nil)))))))))))))))))), ?_⟩
    have l1 := L.al
    have l2 := L.bl
    have lm := L.m8
    have lw := L.w8
    obtain ⟨an, ns, rfl, hsn, hdn⟩ := hn.list
    obtain ⟨ab, bs, rfl, hsb, hdb⟩ := hb.list
    obtain ⟨ac, cs, rfl, hsc, hdc⟩ := hc.list
    have lns : ns.length = m := by rw [hdn.length, List.length_map, l1]
    have lbs : bs.length = m := by rw [hdb.length, frs_len, l2]
    have lcs : cs.length = wide := by rw [hdc.length, frs_len, hcl]
    -- many, wide
    refine ⟨_, rfl, an, ns, rfl, .inl (cut_same.seq hsn), _, rfl, ac, cs, rfl, .inl (cut_same.seq hsc), (by show 2 ≤ sizeLine; decide), fun t0 nt0 => g_pair ?_⟩
    rw [lns, lcs]
    have s0 : Same H (upd H t0 (.tup [.int (m : Nat), .int (wide : Nat)])) := Same.new nt0
    generalize (upd H t0 (.tup [.int (m : Nat), .int (wide : Nat)])) = H0 at s0
    -- basis
    refine ⟨_, rfl, ab, bs, rfl, s0.seq (cut_same.seq hsb), fun D hD => ?_⟩
    refine lc_map (K := K) walk_enum X ((basis0 m wide bounds).map nat) (hX.same s0) hD (by rw [List.length_map, basis_len L]; omega) (by omega) (fun H2 s2 => (s0.trans s2).seq (cut_same.seq hsb)) ?_ fun H2 s2 hba => ?_
    · rintro i v H2 H3 d Q2 hd s2 sc hX2 ⟨T2, x, y, rfl, nT, rfl, ex, ey⟩ k
      obtain ⟨b, eb, hbv⟩ := frs_at hdb ey
      cases ex
      have s3 : Same H2 (upd H2 T2 (.tup [.int (i : Nat), y])) := Same.new nT
      have sA : Same (cutH X H) (upd H2 T2 (.tup [.int (i : Nat), y])) := cut_same.trans (s0.trans (s2.trans s3))
      have e : d = nat (1 + wide + i + (if b < 0 then m else 0)) := by
        unfold basis0 at hd
        rw [List.getElem?_map, List.getElem?_mapIdx, eb] at hd
        exact (Option.some.inj hd).symm
      subst e
      refine g_pair ⟨rfl, ?_⟩
      refine ⟨_, rfl, _, _, rfl, rfl, _, rfl, _, _, rfl, rfl, _, rfl, b, hbv.same sA, rfl, _, _, rfl, rfl, _, rfl, ite2 (fun e => ?_) (fun e => ?_)⟩
      · have e : b < 0 := num_neg.mp (of_decide_eq_true e)
        rw [if_pos e] at k
        exact ⟨_, rfl, _, _, rfl, rfl, k _ _ s3 (.int _)⟩
      · have e : ¬ b < 0 := fun z => e (decide_eq_true (num_neg.mpr z))
        rw [if_neg e] at k
        exact ⟨_, _, rfl, rfl, k _ _ s3 (.int _)⟩
    -- frame
    have s02 := s0.trans s2
    refine ⟨_, rfl, _, rfl, X, _, _, numbers, bounds, rfl, hX.same s02, hn.same (same_cut s02), hb.same (same_cut s02), by omega, by omega, lp_num L, lp_bnd L, fun H3 vl s3 hvl => ?_⟩
    refine ⟨_, rfl, fun x dx nx nd ndx => ?_⟩
    have hxx : upd (upd H3 dx (.own x)) x (.ins CF dx []) x = some (.ins CF dx []) := upd_same
    refine ⟨_, _, _, _, rfl, hxx, fun H4 e4 kp => ⟨rfl, ?_⟩⟩
    obtain ⟨s4, hF⟩ := fr_made (X := X) nx nd e4 kp hvl (hba.same (same_cut s3))
    have s04 := s02.trans (s3.trans s4)
    generalize V.ref x = vF at hF ⊢
    -- fills
    refine fun vz hvz => ⟨(by show 1 ≤ sizeLine; decide), fun q1 nq1 => ⟨_, rfl, _, _, rfl, rfl, _, rfl, _, _, rfl, rfl, q1, _, _, rfl, rfl, upd_same, by omega, by omega, ?_, fun q2 nq2 => ?_⟩⟩
    · show 1 * ((1 : Int) + (wide : Nat) + (m : Nat)).toNat ≤ sizeLine
      refine Nat.le_of_lt (small1000 ?_)
      omega
    have s5 : Same H4 (upd H4 q1 (.lst [vz])) := Same.new nq1
    have e5 : ((1 : Int) + (wide : Nat) + (m : Nat)).toNat = 1 + wide + m := by omega
    rw [flat_rep, e5] at *
    have s6 : Same (upd H4 q1 (.lst [vz])) (upd (upd H4 q1 (.lst [vz])) q2 (.lst (List.replicate (1 + wide + m) vz))) := Same.new nq2
    have e2 : (upd (upd H4 q1 (.lst [vz])) q2 (.lst (List.replicate (1 + wide + m) vz))) q2 = some (.lst (List.replicate (1 + wide + m) vz)) := upd_same
    have s46 := s5.trans s6
    generalize (upd (upd H4 q1 (.lst [vz])) q2 (.lst (List.replicate (1 + wide + m) vz))) = H6 at s46 e2
    clear s5 s6 nq1 nq2
    refine fun vo hvo => ⟨(by show 1 ≤ sizeLine; decide), fun q3 nq3 => ⟨_, rfl, q3, _, _, rfl, rfl, upd_same, by omega, by omega, ?_, fun q4 nq4 => ?_⟩⟩
    · show 1 * ((m : Nat) : Int).toNat ≤ sizeLine
      refine Nat.le_of_lt (small1000 ?_)
      omega
    have e5 : ((m : Nat) : Int).toNat = m := by omega
    rw [flat_rep, e5] at *
    have s7 : Same H6 (upd H6 q3 (.lst [vo])) := Same.new nq3
    have s8 : Same (upd H6 q3 (.lst [vo])) (upd (upd H6 q3 (.lst [vo])) q4 (.lst (List.replicate m vo))) := Same.new nq4
    have e4 : (upd (upd H6 q3 (.lst [vo])) q4 (.lst (List.replicate m vo))) q4 = some (.lst (List.replicate m vo)) := upd_same
    have s68 := s7.trans s8
    generalize (upd (upd H6 q3 (.lst [vo])) q4 (.lst (List.replicate m vo))) = H8 at s68 e4
    clear s7 s8 nq3 nq4
    refine ⟨q2, q4, _, _, rfl, rfl, s68 _ _ e2, e4, ?_, fun q5 nq5 => ?_⟩
    · rw [List.length_replicate, List.length_replicate]
      exact Nat.le_of_lt (small1000 (by omega))
    have s9 : Same H8 (upd H8 q5 (.lst (List.replicate (1 + wide + m) vz ++ List.replicate m vo))) := Same.new nq5
    have s08 := s04.trans (s46.trans s68)
    have nX5 : q5 ∉ X := (hX.same s08).new nq5
    have hfi : Dp K (cutH X (upd H8 q5 (.lst (List.replicate (1 + wide + m) vz ++ List.replicate m vo)))) (.ref q5) (fRow (fills m wide)) := by
      refine .lst (.inl (.inl (cut_upd nX5))) ?_
      unfold fills
      rw [frs_append]
      have hx9 := hX.same (s08.trans s9)
      exact (dp_rep ((hvz.same (s46.trans (s68.trans s9))).cut hx9) _).append (dp_rep ((hvo.same (s68.trans s9)).cut hx9) _)
    have s49 := s46.trans (s68.trans s9)
    generalize (upd H8 q5 (.lst (List.replicate (1 + wide + m) vz ++ List.replicate m vo))) = H9 at hfi s49
    clear s68 s46 s9 e4 e2 nq5 s08
    -- the first settled
    have s09 := s04.trans s49
    refine ⟨_, rfl, _, rfl, _, rfl, _, _, rfl, rfl, _, rfl, _, _, rfl, rfl, _, _, rfl, rfl, RgOk.of_le (by omega) (by omega) (by omega) (by omega), fun q6 nq6 => ?_⟩
    have ecols : rgV 1 (1 + (wide : Nat) + (m : Nat)) = (List.range' 1 (1 + wide + m - 1)).map vNat := by
      have := rg_nats (1 + wide + m) (by omega)
      simpa using this
    rw [ecols]
    have sq : Same H9 (upd H9 q6 (.lst ((List.range' 1 (1 + wide + m - 1)).map vNat))) := Same.new nq6
    have nX6 : q6 ∉ X := (hX.same s09).new nq6
    have hcols : Dp K (cutH X (upd H9 q6 (.lst ((List.range' 1 (1 + wide + m - 1)).map vNat)))) (.ref q6) (iRow (List.range' 1 (1 + wide + m - 1))) := .lst (.inl (.inl (cut_upd nX6))) (dp_nats _)
    generalize (upd H9 q6 (.lst ((List.range' 1 (1 + wide + m - 1)).map vNat))) = H10 at sq hcols
    have S := setup m wide
    have hfl := fills_len m wide
    have Pl := begun_plain L
    have J0 := first_frame L
    have s410 := s49.trans sq
    have s010 := s04.trans s410
    have cols_lt : ∀ c ∈ List.range' 1 (1 + wide + m - 1), c < 1 + wide + m + m := fun c hc => by
      have := List.mem_range'_1.mp hc
      omega
    refine ⟨X, _, _, _, 1 + wide + m + m, mBegun numbers bounds, basis0 m wide bounds, fills m wide, List.range' 1 (1 + wide + m - 1),
      fun R B => JJ m (1 + wide + m + m) (ent (mBegun numbers bounds)) (fil m wide) R B ∧ ∀ p, p < m → 1 ≤ bas B p, fun R B => left (nxt (fills m wide) (List.range' 1 (1 + wide + m - 1))) (R, B), rfl, hX.same s010, hF.same s410, hfi.same (same_cut sq), hcols, hfl, by omega, cols_lt, by rw [List.length_range']; omega, ⟨J0, fun p hp => ?_⟩,
      fun R B h => h.1.shape Pl hfl (fills_fee m wide).1, fun R B c p h e1 e2 => ?_, fun R B H11 t vf vp h e1 s11 et hf hp => ?_, fun R B c H11 t vp h e1 e2 s11 et hp => ?_⟩
    · rw [basis_at L hp]
      omega
    · have ok := step_ok S (by omega) hfl h.1 e1 e2
      have e3 : nxt (fills m wide) (List.range' 1 (1 + wide + m - 1)) (R, B) = some (mTurn R p c, B.set p c) := by
        unfold nxt
        simp only [e1, e2]
      refine ⟨⟨ok.2.2, fun p' hp' => ?_⟩, (left_step (ends S (by omega) hfl h.1) e3).2⟩
      rw [bas_set (by rw [h.1.bl]; exact hp')]
      unfold Cm.pivB
      split
      · exact ok.1.lo
      · exact h.2 p' hp'
    · refine ⟨t, [vf, vp], rfl, .inl (.inl et), rfl, vf, [vp], rfl, vp, [], rfl, rfl, ?_⟩
      generalize hσ : List.set _ 8 (some vp) = σ
      obtain rfl : [some (.ref an), some (.ref ab), some (.ref ac), some (.int m), some (.int wide), some (.ref D), some vf, some (.ref q5), some vp, none, none, none, none, none, none, none] = σ := hσ
      clear hfi hvz hvo hcols nX6 nX5 nq6
      obtain ⟨ap, ps, rfl, hsp, hdp⟩ := hp.list
      obtain ⟨lpr, prv⟩ := prices_vec h.1 hfl
      have s011 := s010.trans s11
      have en0 := enters_none (by omega) e1
      have opt : ∀ j, 1 ≤ j → j < 1 + wide + m → 0 ≤ Cm.price m (vec (fills m wide)) (ent R) (bas B) j := fun j h1 h2 => by
        rw [← prv j (by omega)]
        exact en0 j h1 h2
      have h0l : 0 < (mPrices (fills m wide) R B).length := by omega
      obtain ⟨v0, ev0, hv0⟩ := frs_get hdp (List.getElem?_eq_getElem h0l)
      have ep0 : (mPrices (fills m wide) R B)[0] = Cm.price m (vec (fills m wide)) (ent R) (bas B) 0 := by
        rw [← prv 0 (by omega)]
        exact (vec_at (List.getElem?_eq_getElem h0l)).symm
      refine ⟨_, rfl, ap, ps, _, _, rfl, rfl, cut_same.seq hsp, atI_nat (j := 0) ev0, fun vz hvz => ⟨_, fr 0, (hv0.same cut_same).dp, hvz.dp, rfl, rfl, _, rfl, ?_⟩⟩
      rw [fr_eqv]
      by_cases hz : (mPrices (fills m wide) R B)[0] = 0
      · rw [decide_eq_true hz]
        refine iteF ?_
        have e00 : (1 : Int) + (wide : Nat) + (m : Nat) = ((1 + wide + m : Nat) : Int) := by omega
        refine ⟨_, rfl, _, rfl, _, _, rfl, rfl, _, rfl, _, _, rfl, rfl, X, _, 1 + wide + m + m, m, 1 + wide + m, R, B, fun k R B => J2 m wide numbers bounds k R B ∧ ∀ p, p < m → 1 ≤ bas B p, by show [vf, V.int ((1 : Int) + (wide : Nat) + (m : Nat))] = _; rw [e00], hX.same s011, hf, by omega, by omega, by omega, by omega, h.1.rl,
          ⟨⟨h.1, fills_null h.1 (by rw [← ep0]; exact hz), fun p hp => by omega⟩, h.2⟩, fun k R B h => ⟨h.1.jj.rl, h.1.jj.bl, row_sz Pl h.1.jj⟩, fun k R B c hk h hb ec => ?_, fun k R B hk h hb ec => ⟨h.1.keep (.inr (mCol_none ec)), h.2⟩, fun k R B hk h hb => ⟨h.1.keep (.inl (by unfold bas; omega)), h.2⟩, fun R2 B2 H12 v2 h2 s12 hF2 => ?_⟩
        · obtain ⟨c1, c2, c3⟩ := mCol_some ec
          refine ⟨h.1.turn hk c1 c2 hb c3, fun p hp => ?_⟩
          rw [bas_set (by rw [h.1.jj.bl]; exact hp)]
          unfold Cm.pivB
          split
          · exact c1
          · exact h.2 p hp
        clear hfl opt en0 lpr prv ev0 hv0 ep0 hz hdp hsp
        have s012 := s011.trans s12
        -- goals
        refine fun vz hvz => ⟨_, rfl, ac, cs, rfl, .inr (s012.seq (cut_same.seq hsc)), ?_, fun q1 nq1 => ?_⟩
        · rw [List.length_cons, List.length_append]
          exact Nat.le_of_lt (small1000 (by simp; omega))
        have r5 : Same H12 (upd H12 q1 (.lst (vz :: (cs ++ [])))) := Same.new nq1
        have e1 : (upd H12 q1 (.lst (vz :: (cs ++ [])))) q1 = some (.lst (vz :: (cs ++ []))) := upd_same
        generalize (upd H12 q1 (.lst (vz :: (cs ++ [])))) = H13 at r5 e1
        have e2m : ((2 : Int) * ((m : Nat) : Int)).toNat = 2 * m := by omega
        refine fun vo hvo => ⟨(by show 1 ≤ sizeLine; decide), fun q2 nq2 => ⟨_, rfl, _, _, rfl, rfl, .inl ⟨by decide, by decide⟩, q2, _, _, rfl, rfl, upd_same, by omega, by omega, ?_, fun q3 nq3 => ?_⟩⟩
        · show 1 * ((2 : Int) * ((m : Nat) : Int)).toNat ≤ sizeLine
          exact Nat.le_of_lt (small1000 (by omega))
        rw [flat_rep, e2m] at *
        have s7 : Same H13 (upd H13 q2 (.lst [vo])) := Same.new nq2
        have s8 : Same (upd H13 q2 (.lst [vo])) (upd (upd H13 q2 (.lst [vo])) q3 (.lst (List.replicate (2 * m) vo))) := Same.new nq3
        have e4 : (upd (upd H13 q2 (.lst [vo])) q3 (.lst (List.replicate (2 * m) vo))) q3 = some (.lst (List.replicate (2 * m) vo)) := upd_same
        have s68 := s7.trans s8
        generalize (upd (upd H13 q2 (.lst [vo])) q3 (.lst (List.replicate (2 * m) vo))) = H14 at s68 e4
        clear s7 s8 nq2 nq3
        refine ⟨q1, q3, _, _, rfl, rfl, s68 _ _ e1, e4, ?_, fun q4 nq4 => ?_⟩
        · rw [List.length_cons, List.length_append, List.length_replicate]
          exact Nat.le_of_lt (small1000 (by simp; omega))
        have s9 : Same H14 (upd H14 q4 (.lst (vz :: (cs ++ []) ++ List.replicate (2 * m) vo))) := Same.new nq4
        have s1214 := r5.trans s68
        have s014 := s012.trans s1214
        have nX4 : q4 ∉ X := (hX.same s014).new nq4
        have hgo : Dp K (cutH X (upd H14 q4 (.lst (vz :: (cs ++ []) ++ List.replicate (2 * m) vo)))) (.ref q4) (fRow (goals m costs)) := by
          refine .lst (.inl (.inl (cut_upd nX4))) ?_
          unfold goals
          have hx9 := hX.same (s014.trans s9)
          have e : frs (0 :: costs ++ List.replicate (2 * m) 0) = fr 0 :: (frs costs ++ []) ++ frs (List.replicate (2 * m) 0) := by
            rw [frs_append, List.append_nil]
            rfl
          rw [e]
          exact (DpAll.cons ((hvz.same (s1214.trans s9)).cut hx9).dp ((hdc.same (same_cut (s014.trans s9))).append .nil)).append (dp_rep ((hvo.same (s68.trans s9)).cut hx9) _)
        have s15 := s1214.trans s9
        generalize (upd H14 q4 (.lst (vz :: (cs ++ []) ++ List.replicate (2 * m) vo))) = H15 at hgo s15
        clear s68 s9 e4 e1 nq4 nq1 s1214 s014 r5
        have s015 := s012.trans s15
        -- the second settled
        refine ⟨_, rfl, _, rfl, _, rfl, _, _, rfl, rfl, _, rfl, _, _, rfl, rfl, _, _, rfl, rfl, RgOk.of_le (by omega) (by omega) (by omega) (by omega), fun q6 nq6 => ?_⟩
        rw [ecols]
        have sq : Same H15 (upd H15 q6 (.lst ((List.range' 1 (1 + wide + m - 1)).map vNat))) := Same.new nq6
        have nX6 : q6 ∉ X := (hX.same s015).new nq6
        have hcols : Dp K (cutH X (upd H15 q6 (.lst ((List.range' 1 (1 + wide + m - 1)).map vNat)))) (.ref q6) (iRow (List.range' 1 (1 + wide + m - 1))) := .lst (.inl (.inl (cut_upd nX6))) (dp_nats _)
        generalize (upd H15 q6 (.lst ((List.range' 1 (1 + wide + m - 1)).map vNat))) = H16 at sq hcols
        have hgl := goals_len (m := m) hcl
        have hgf := goals_fee (m := m) hcl hfee hpos
        have s1216 := s15.trans sq
        have s016 := s012.trans s1216
        refine ⟨X, _, _, _, 1 + wide + m + m, R2, B2, goals m costs, List.range' 1 (1 + wide + m - 1),
          fun R B => J2 m wide numbers bounds m R B ∧ ∀ p, p < m → 1 ≤ bas B p, fun R B => left (nxt (goals m costs) (List.range' 1 (1 + wide + m - 1))) (R, B), rfl, hX.same s016, hF2.same s1216, hgo.same (same_cut sq), hcols, hgl, by omega, cols_lt, by rw [List.length_range']; omega, h2,
          fun R B h => h.1.jj.shape Pl hgl hgf.1, fun R B c p h e1 e2 => ?_, fun R3 B3 H17 t3 vf3 vp3 h3 e13 s17 et3 hf3 hp3 => ?_, fun R B c H11 t vp h e1 e2 s11 et hp => ?_⟩
        · have ok := step_ok S (by omega) hgl h.1.jj e1 e2
          have e3 : nxt (goals m costs) (List.range' 1 (1 + wide + m - 1)) (R, B) = some (mTurn R p c, B.set p c) := by
            unfold nxt
            simp only [e1, e2]
          have hi := ok.1.hi
          refine ⟨⟨h.1.step ok.1.lo hi ok.2.1, fun p' hp' => ?_⟩, (left_step (ends S (by omega) hgl h.1.jj) e3).2⟩
          rw [bas_set (by rw [h.1.jj.bl]; exact hp')]
          unfold Cm.pivB
          split
          · exact ok.1.lo
          · exact h.2 p' hp'
        · refine ⟨t3, [vf3, vp3], rfl, .inl (.inl et3), rfl, vf3, [vp3], rfl, vp3, [], rfl, rfl, ?_⟩
          generalize hσ : List.set _ 8 (some vp3) = σ
          obtain rfl : [some (.ref an), some (.ref ab), some (.ref ac), some (.int m), some (.int wide), some (.ref D), some vf3, some (.ref q5), some vp3, some (.ref q4), none, none, none, none, none, none] = σ := hσ
          clear hgo hvz hvo hcols nX6 nX4 nq6
          obtain ⟨lpr, prv⟩ := prices_vec h3.1.jj hgl
          have s017 := s016.trans s17
          have en0 := enters_none (by omega) e13
          have opt : ∀ j, 1 ≤ j → j < 1 + wide + m → 0 ≤ Cm.price m (vec (goals m costs)) (ent R3) (bas B3) j := fun j h1 h2 => by
            rw [← prv j (by omega)]
            exact en0 j h1 h2
          have least := least_of L h3.1 h3.2 hcl opt
          obtain ⟨a3, dx3, l3, b3, rfl, ha3, hl3, hb3⟩ := id hf3
          obtain ⟨al3, ls3, rfl, hsl3, hdl3⟩ := hl3.list
          obtain ⟨ab3, bs3, rfl, hsb3, hdb3⟩ := hb3.list
          have J3 := h3.1.jj
          have ll3 : ls3.length = m := by rw [hdl3.length, List.length_map, J3.rl]
          have lb3 : bs3.length = m := by rw [hdb3.length, List.length_map, J3.bl]
          refine ⟨_, rfl, rfl, false, rfl, iteF ?_⟩
          -- told
          refine ⟨_, rfl, a3, CF, dx3, _, _, rfl, ha3, TF.cl, TF.nL, rfl, _, rfl, a3, CF, dx3, _, _, rfl, ha3, TF.cl, TF.nB, rfl, al3, ab3, ls3, bs3, rfl, cut_same.seq hsl3, cut_same.seq hsb3, fun D1 hD1 => ?_⟩
          refine dc_it (walk_zip (n := m) (by omega)) (fun i H => Same H17 H ∧ ∃ kvs, H D1 = some (.dK kvs) ∧ kvs.length ≤ i ∧ ∀ j : Nat, ((∀ p, p < i → bas B3 p ≠ j) ∧ valV kvs (.inl j) = none) ∨ ∃ p v, p < i ∧ bas B3 p = j ∧ valV kvs (.inl j) = some v ∧ Fr K H v (ent R3 p 0))
            ⟨Same.new hD1, [], upd_same, Nat.le_refl _, fun j => .inl ⟨fun p hp => by omega, rfl⟩⟩ (fun i H _ h => ⟨h.1.seq (cut_same.seq hsl3), h.1.seq (cut_same.seq hsb3)⟩) ?_ ?_
          · rintro i v H18 H19 hi ⟨s18, kvs, ekv, lkv, hkv⟩ ⟨T2, x, y, rfl, nT, rfl, ex, ey⟩
            obtain ⟨row, er, hrw⟩ := rows_at hdl3 ex
            obtain ⟨c, ec, rfl⟩ := nats_at hdb3 ey
            have s19 : Same H18 (upd H18 T2 (.tup [x, .int (c : Nat)])) := Same.new nT
            have sA : Same (cutH X H17) (upd H18 T2 (.tup [x, .int (c : Nat)])) := cut_same.trans (s18.trans s19)
            obtain ⟨ar, rs, rfl, hsr, hdr⟩ := hrw.list
            have lr : row.length = 1 + wide + m + m := J3.row row (List.mem_of_getElem? er)
            have h0r : 0 < row.length := by omega
            obtain ⟨v0, ev0, hv0⟩ := frs_get hdr (List.getElem?_eq_getElem h0r)
            have e0 : ent R3 i 0 = row[0] := by rw [ent_at er, vec_at (List.getElem?_eq_getElem h0r)]
            have eb : bas B3 i = c := bas_at ec
            refine g_pair ⟨rfl, ?_⟩
            refine ⟨_, rfl, _, rfl, ar, rs, _, _, rfl, rfl, sA.seq hsr, atI_nat (j := 0) ev0, kvs, .inl (c : Int), rfl, s19 _ _ ekv, ?_, ?_, _, upd_same, ?_, fun j => ?_⟩
            · exact Nat.lt_of_lt_of_le (Nat.lt_succ_of_le lkv) (Nat.le_of_lt (small1000 (by omega)))
            · intro b o e
              rw [upd_ne (ne_of_none e hD1)]
              exact s19 _ _ (s18 b o e)
            · have := length_putK kvs (.inl (c : Int)) v0
              omega
            · rw [valV_put]
              have keepFr : ∀ {v : V} {q : Rat}, Fr K H18 v q → Fr K (upd (upd H18 T2 (.tup [V.ref ar, .int (c : Nat)])) D1 (.dK (putK kvs (.inl (c : Int)) v0))) v q := fun {v q} h => by
                obtain ⟨a, rfl, hs⟩ := h
                refine ⟨a, rfl, ?_⟩
                have h2 := s19.tup hs
                have ne : ∀ {u : HO}, (upd H18 T2 (.tup [V.ref ar, .int (c : Nat)])) a = some u → (∀ kvs, u ≠ .dK kvs) → a ≠ D1 := fun e n z => by
                  rw [z, s19 _ _ ekv] at e
                  exact n _ (Option.some.inj e).symm
                rcases h2 with (h | ⟨o, h⟩) | h
                · exact .inl (.inl (by rw [upd_ne (ne h (fun _ z => nomatch z))]; exact h))
                · exact .inl (.inr ⟨o, by rw [upd_ne (ne h (fun _ z => nomatch z))]; exact h⟩)
                · exact .inr h
              by_cases ej : j = c
              · subst ej
                rw [if_pos rfl]
                refine .inr ⟨i, v0, by omega, eb, rfl, ?_⟩
                rw [e0]
                refine keepFr ((hv0.same (cut_same.trans s18)))
              · have ej' : ¬ ((Sum.inl (j : Int) : L2.Key) = .inl (c : Int)) := fun z => ej (by have := Sum.inl.inj z; omega)
                rw [if_neg ej']
                rcases hkv j with ⟨h1, h2⟩ | ⟨p, v, h1, h2, h3, h4⟩
                · refine .inl ⟨fun p hp => ?_, h2⟩
                  by_cases hpi : p = i
                  · rw [hpi, eb]
                    exact fun z => ej z.symm
                  · exact h1 p (by omega)
                · exact .inr ⟨p, v, by omega, h2, h3, keepFr h4⟩
          · rintro H18 ⟨s18, kvs, ekv, lkv, hkv⟩
            -- values
            refine ⟨_, rfl, (wide : Nat), rfl, by omega, by omega, fun D2 hD2 => ?_⟩
            have s018 := s017.trans s18
            refine lc_map (K := K) walk_rangeN X (frs (told m wide R3 B3)) (hX.same s018) hD2 (by rw [frs_len, least.1]; omega) (by omega) (fun _ _ => trivial) ?_ fun H19 s19 hva => ?_
            · rintro k v H19 H20 d Qk hd s19 sc hX19 ⟨rfl, rfl⟩ kk
              have hk : k < wide := by
                have := (List.getElem?_eq_some_iff.mp hd).1
                rw [frs_len, least.1] at this
                exact this
              have e : d = fr (vec (told m wide R3 B3) k) := by
                have hkl : k < (told m wide R3 B3).length := by rw [least.1]; exact hk
                unfold frs at hd
                rw [List.getElem?_map, List.getElem?_eq_getElem hkl] at hd
                rw [vec_at (List.getElem?_eq_getElem hkl)]
                exact (Option.some.inj hd).symm
              subst e
              have e1k : (1 : Int) + ((k : Nat) : Int) = ((1 + k : Nat) : Int) := by omega
              refine ⟨rfl, _, rfl, D1, rfl, .inl ⟨kvs, .inl (s19 _ _ ekv)⟩, _, rfl, _, _, rfl, rfl, fun vz hvz => ⟨valV kvs (.inl ((1 : Int) + ((k : Nat) : Int))), DGet.k (k := .inl ((1 : Int) + ((k : Nat) : Int))) (s19 _ _ ekv), ?_⟩⟩
              rw [e1k]
              rcases hkv (1 + k) with ⟨h1, h2⟩ | ⟨p, v, h1, h2, h3', h4⟩
              · rw [h2]
                refine kk _ _ (Same.refl _) ?_
                rw [told_vec hk, Cm.sum_zero fun p hp => if_neg (h1 p hp)]
                exact (hvz.cut hX19).dp
              · rw [h3']
                refine kk _ _ (Same.refl _) ?_
                rw [told_vec hk, Cm.sum_single h1 fun p' hp' hne => if_neg fun z => hne (J3.tab.inj hp' h1 (by rw [z, h2])), if_pos h2]
                exact ((h4.same s19).cut hX19).dp
            obtain ⟨aD2, us, eD2, hsu, hdu⟩ := hva.list
            cases eD2
            obtain ⟨ap3, ps3, rfl, hsp3, hdp3⟩ := hp3.list
            have h0l3 : 0 < (mPrices (goals m costs) R3 B3).length := by omega
            obtain ⟨v03, ev03, hv03⟩ := frs_get hdp3 (List.getElem?_eq_getElem h0l3)
            have ep03 : (mPrices (goals m costs) R3 B3)[0] = Cm.price m (vec (goals m costs)) (ent R3) (bas B3) 0 := by
              rw [← prv 0 (by omega)]
              exact (vec_at (List.getElem?_eq_getElem h0l3)).symm
            have szp : Sz 400 (mPrices (goals m costs) R3 B3)[0] := by
              have h1 := (h3.1.jj.shape Pl hgl hgf.1).pk R3.length (Nat.le_refl _)
              have e : mPk (goals m costs) R3 B3 R3.length = mPrices (goals m costs) R3 B3 := by
                unfold mPk mPrices
                rw [List.take_of_length_le (by rw [List.length_zip]; omega)]
              rw [e] at h1
              exact h1 _ (List.getElem_mem h0l3)
            refine ⟨_, _, rfl, .inl ⟨cut_same.seq hsu, fun l1 nl1 => ?_⟩⟩
            have t20 : Same H19 (upd H19 l1 (.tup us)) := Same.new nl1
            have s1719 := s18.trans s19
            have nXl : l1 ∉ X := (hX.same (s018.trans s19)).new nl1
            have hpt : Dp K (cutH X (upd H19 l1 (.tup us))) (.ref l1) (fTup (told m wide R3 B3)) := .tup (.inl (.inl (cut_upd nXl))) (hdu.same (same_cut t20))
            generalize (upd H19 l1 (.tup us)) = H20 at t20 hpt
            have s1720 := s1719.trans t20
            refine ⟨_, rfl, fun vz hvz => ⟨_, rfl, ap3, ps3, _, _, rfl, rfl, (cut_same.trans s1720).seq hsp3, atI_nat (j := 0) ev03, vz, v03, 0, _, rfl, hvz, hv03.same (cut_same.trans s1720), sz_zero (by decide), szp.mono (by decide), fun H21 vc s21 hvc => ?_⟩⟩
            have s1721 := s1720.trans s21
            refine ⟨_, rfl, _, rfl, _, _, rfl, rfl, _, rfl, _, rfl, _, _, rfl, rfl, _, rfl, _, _, rfl, rfl, _, rfl, ap3, ps3, rfl, (cut_same.trans s1721).seq hsp3, fun q7 nq7 => ⟨_, _, rfl, .inl ⟨.inl (.inl upd_same), fun q8 nq8 x dx nx nd ndx => ⟨x, dx, _, _, _, _, rfl, upd_same, fun H22 e22 kp => ⟨rfl, ?_⟩⟩⟩⟩⟩
            have s2122 := (Same.new nq7).trans ((Same.new nq8).trans (Same.made nx nd kp))
            refine q H22 _ (some (told m wide R3 B3, 0 - (mPrices (goals m costs) R3 B3)[0])) (s017.trans (s1721.trans s2122)) ⟨x, dx, _, _, _, rfl, e22, hpt.same (same_cut (s21.trans s2122)), hvc.same s2122⟩ ?_
            refine ⟨?_, told_sz Pl J3 (by omega), sz_neg szp⟩
            rw [ep03]
            exact least
        · exfalso
          obtain ⟨pl, pv⟩ := prices_vec h.1.jj hgl
          have E := enters_of (by omega) e1
          have hn := leaves_none e2
          rw [h.1.jj.rl] at hn
          refine no_ray (m := m) (n := 1 + wide + m + m) (M := ent (mBegun numbers bounds)) (f := fil m wide) (R := R) (B := B) hgf.2 hn ?_
          have := E.hi
          rw [← pv c (by omega)]
          exact E.neg
      · rw [decide_eq_false hz]
        refine iteT ⟨_, rfl, _, rfl, _, _, rfl, rfl, _, rfl, _, rfl, _, _, rfl, rfl, _, rfl, _, _, rfl, rfl, _, rfl, ap, ps, rfl, cut_same.seq hsp, fun q7 nq7 => ⟨_, _, rfl, .inl ⟨.inl (.inl upd_same), fun q8 nq8 x dx nx nd ndx => ⟨x, dx, _, _, _, _, rfl, upd_same, fun H12 e12 kp => ⟨rfl, ?_⟩⟩⟩⟩⟩
        refine q H12 _ none (s011.trans ((Same.new nq7).trans ((Same.new nq8).trans (Same.made nx nd kp)))) ⟨x, dx, _, rfl, e12⟩ (barred_of L h.1 opt (by rw [← ep0]; exact hz))
    · exfalso
      obtain ⟨pl, pv⟩ := prices_vec h.1 hfl
      have E := enters_of (by omega) e1
      have hn := leaves_none e2
      rw [h.1.rl] at hn
      refine no_ray (m := m) (n := 1 + wide + m + m) (M := ent (mBegun numbers bounds)) (f := fil m wide) (R := R) (B := B) (fills_fee m wide).2 hn ?_
      have := E.hi
      rw [← pv c (by omega)]
      exact E.neg
end
end Cs
set_option Elab.async false
set_option linter.all false
set_option maxRecDepth 100000
set_option maxHeartbeats 8000000
/-! checks of fractions, stretches, mixes; totals; signs -/
namespace Cs
open PySem PySem.Spec PyProof.Rows L2
/-- the built-ins are not shadowed -/
structure Bn (mg : Str → Option Value) : Prop where
  isi : mg "isinstance" = none
  int : mg "int" = none
  bool : mg "bool" = none
  str : mg "str" = none
  tup : mg "tuple" = none
  all : mg "all" = none
  len : mg "len" = none
  range : mg "range" = none
  abs : mg "abs" = none
  enum : mg "enumerate" = none
  zip : mg "zip" = none
  list : mg "list" = none
theorem tyx_tup {K : PySem.W.Frag} {H : Hp} {a : Addr} {xs : List V} (h : SqT K H a xs) : TyX K H (.ref a) (.type "tuple") := by
  rcases h with (h | ⟨o, h⟩) | ⟨o, its, n, h, c, _⟩
  · exact .base (.tup h)
  · exact .fTuple h
  · exact .kTuple h c
/-- a list of n times true -/
def yes (n : Nat) : PyData := .list (List.replicate n (.bool true))
theorem yes_all {K : PySem.W.Frag} {H : Hp} : ∀ {n : Nat} {xs : List V}, DpAll K H xs (List.replicate n (.bool true)) → xs = (List.replicate n true).map V.bl
  | 0, _, h => by
    cases h
    rfl
  | n + 1, _, h => by
    cases h with
    | cons h1 h2 =>
      cases h1
      rw [yes_all h2]
      rfl
theorem yes_of {K : PySem.W.Frag} {H : Hp} {v : V} {n : Nat} (h : Dp K H v (yes n)) : ∃ a, v = .ref a ∧ SqL K H a ((List.replicate n true).map V.bl) ∧ (List.replicate n true).all id = true := by
  obtain ⟨a, xs, rfl, hs, ha⟩ := h.list
  rw [yes_all ha] at hs
  exact ⟨a, rfl, hs, by simp⟩
theorem rep_at {n i : Nat} {d : PyData} (h : (List.replicate n (PyData.bool true))[i]? = some d) : i < n ∧ d = .bool true := by
  rw [List.getElem?_replicate] at h
  split at h
  · exact ⟨by assumption, (Option.some.inj h).symm⟩
  · cases h
/-- a stretch -/
def dSt (p : Int × Int) : PyData := .tuple [.int p.1, .int p.2]
theorem st_of {K : PySem.W.Frag} {H : Hp} {v : V} {p : Int × Int} (h : Dp K H v (dSt p)) : ∃ a, v = .ref a ∧ SqT K H a [.int p.1, .int p.2] := by
  obtain ⟨a, xs, rfl, hs, ha⟩ := h.tuple
  have e := DpAll.ints_eq (ns := [p.1, p.2]) ha
  subst e
  exact ⟨a, rfl, hs⟩
/-- not a list: may be cut -/
theorem tup_cut {K : PySem.W.Frag} {H : Hp} {X : List Addr} {a : Addr} {xs : List V} (h : SqT K H a xs) (x : Xin X H) : SqT K (cutH X H) a xs := by
  have no : ∀ {u : HO}, H a = some u → (∀ xs, u ≠ .lst xs) → a ∉ X := fun e n hx => by
    obtain ⟨xs, e'⟩ := x a hx
    rw [e] at e'
    exact n xs (Option.some.inj e')
  rcases h with (h | ⟨o, h⟩) | h
  · exact .inl (.inl (cut_mk h (no h (fun _ z => nomatch z))))
  · exact .inl (.inr ⟨o, cut_mk h (no h (fun _ z => nomatch z))⟩)
  · exact .inr h
section
variable {P : Program} {w : World} {K : PySem.W.Frag} {mg : Str → Option Value} {base : Heap}
/-! ### is_whole, is_integer, is_tuple_of -/
abbrev sWhole : Stmt := topS 23
theorem scWhole : FnScope ["value"] ["value"] (defScope sWhole) := ⟨rfl, rfl, rfl, by decide +kernel, rfl, by decide +kernel, by decide +kernel⟩
def spWhole : Sp := fun vs H Q _ => ∃ n : Int, vs = [.int n] ∧ Q (.bl true) H
theorem c_whole (D : DefAt K mg "is_whole" sWhole ["value"]) (T : Bn mg) : Cal P w K mg base 1 "is_whole" ["value"] spWhole := by
  refine D.cal fun f fd F => ?_
  refine F.ok scWhole (fun vs H Q E h => ?_) (fun cdv A outer s H vs Q E hr h => ?_)
  · obtain ⟨n, rfl, _⟩ := h
    rfl
  · obtain ⟨n, rfl, q⟩ := h
    refine ⟨_, pss_one (ps_ret (pe_and (pe_callB call_isi (by rfl) T.isi (by decide +kernel) (pa_cons (pv 0) (pa_cons (pe_bltn (v := .ty "int") (by rfl) T.int (by decide +kernel) rfl) pa_nil)))
      (pe_one (pe_not (pe_callB call_isi (by rfl) T.isi (by decide +kernel) (pa_cons (pv 0) (pa_cons (pe_bltn (v := .ty "bool") (by rfl) T.bool (by decide +kernel) rfl) pa_nil))))))), ?_⟩
    exact ⟨_, rfl, _, _, _, _, true, rfl, .ty "int", .base (.int n), kit_ty (by decide +kernel), true, rfl, iteT ⟨_, rfl, _, _, _, _, false, rfl, .ty "bool", .base (.int n), kit_ty (by decide +kernel), false, rfl, q⟩⟩
abbrev sInteger : Stmt := topS 24
theorem scInteger : FnScope ["value", "least", "greatest"] ["value", "least", "greatest"] (defScope sInteger) := ⟨rfl, rfl, rfl, by decide +kernel, rfl, by decide +kernel, by decide +kernel⟩
def spInteger : Sp := fun vs H Q _ => ∃ n l g : Int, vs = [.int n, .int l, .int g] ∧ l ≤ n ∧ n ≤ g ∧ Q (.bl true) H
theorem c_integer (D : DefAt K mg "is_integer" sInteger ["value", "least", "greatest"]) (W : Cal P w K mg base 1 "is_whole" ["value"] spWhole) : Cal P w K mg base 2 "is_integer" ["value", "least", "greatest"] spInteger := by
  refine D.cal fun f fd F => ?_
  refine F.ok scInteger (fun vs H Q E h => ?_) (fun cdv A outer s H vs Q E hr h => ?_)
  · obtain ⟨n, l, g, rfl, _⟩ := h
    rfl
  · obtain ⟨n, l, g, rfl, h1, h2, q⟩ := h
    refine ⟨_, pss_one (ps_ret (pe_and (pe_cal W hr (pa_cons (pv 0) pa_nil)) (pe_one (pe_chain op_le op_le (pv 1) (pv 0) (pv 2))))), ?_⟩
    refine ⟨_, rfl, n, rfl, true, rfl, iteT ⟨_, rfl, _, rfl, _, _, rfl, rfl, _, rfl, ite2 (fun _ => ⟨_, rfl, _, _, rfl, rfl, ?_⟩) fun e => absurd (decide_eq_true h1) e⟩⟩
    show Q (.bl (decide (n ≤ g))) H
    rw [decide_eq_true h2]
    exact q
abbrev sTupOf : Stmt := topS 26
theorem scTupOf : FnScope ["value", "many"] ["value", "many"] (defScope sTupOf) := ⟨rfl, rfl, rfl, by decide +kernel, rfl, by decide +kernel, by decide +kernel⟩
def spTupOf (K : PySem.W.Frag) : Sp := fun vs H Q _ => ∃ (a : Addr) (xs : List V) (n : Int), vs = [.ref a, .int n] ∧ SqT K H a xs ∧ (xs.length : Int) = n ∧ Q (.bl true) H
theorem c_tupof (D : DefAt K mg "is_tuple_of" sTupOf ["value", "many"]) (T : Bn mg) : Cal P w K mg base 1 "is_tuple_of" ["value", "many"] (spTupOf K) := by
  refine D.cal fun f fd F => ?_
  refine F.ok scTupOf (fun vs H Q E h => ?_) (fun cdv A outer s H vs Q E hr h => ?_)
  · obtain ⟨a, xs, n, rfl, _⟩ := h
    rfl
  · obtain ⟨a, xs, n, rfl, hs, rfl, q⟩ := h
    refine ⟨_, pss_one (ps_ret (pe_and (pe_callB call_isi (by rfl) T.isi (by decide +kernel) (pa_cons (pv 0) (pa_cons (pe_bltn (v := .ty "tuple") (by rfl) T.tup (by decide +kernel) rfl) pa_nil)))
      (pe_one (pe_cmpR op_eq (pe_callB call_len_seq (by rfl) T.len PySem.boot_len (pa_cons (pv 0) pa_nil)) (pv 1) (nomark _))))), ?_⟩
    refine ⟨_, rfl, _, _, _, _, true, rfl, .ty "tuple", tyx_tup hs, kit_ty (by decide +kernel), true, rfl, iteT ⟨_, rfl, a, xs, rfl, .inr hs, _, rfl, rfl, ?_⟩⟩
    rw [decide_eq_true rfl]
    exact q
/-! ### is_fraction -/
abbrev sFraction : Stmt := topS 35
theorem scFraction : FnScope ["value"] ["value"] (defScope sFraction) := ⟨rfl, rfl, rfl, by decide +kernel, rfl, by decide +kernel, by decide +kernel⟩
def spFraction (K : PySem.W.Frag) : Sp := fun vs H Q _ => ∃ (v : V) (q : Rat), vs = [v] ∧ Fr K H v q ∧ Q (.bl true) H
theorem c_fraction (D : DefAt K mg "is_fraction" sFraction ["value"]) (T : Bn mg) (To : Cal P w K mg base 1 "is_tuple_of" ["value", "many"] (spTupOf K)) (W : Cal P w K mg base 1 "is_whole" ["value"] spWhole) (C : Cal P w K mg base 1 "common" ["one", "other"] spCommon) :
    Cal P w K mg base 2 "is_fraction" ["value"] (spFraction K) := by
  refine D.cal fun f fd F => ?_
  refine F.ok scFraction (fun vs H Q E h => ?_) (fun cdv A outer s H vs Q E hr h => ?_)
  · obtain ⟨v, q, rfl, _⟩ := h
    rfl
  · obtain ⟨v, r, rfl, hv, q⟩ := h
    refine ⟨_, pss_cons (ps_if (pw_or (pt_not (pt_val (pe_cal To hr (pa_cons (pv 0) (pa_cons pe_int pa_nil))))) (pw_or (pt_not (pt_val (pe_cal W hr (pa_cons (pe_num K 0) pa_nil)))) (pw_or1 (pt_not (pt_val (pe_cal W hr (pa_cons (pe_den K 0) pa_nil))))))).pt pss_never pss_nil)
      (pss_one (ps_ret (pe_and (pe_cmpR op_gt (pe_den K 0) pe_int (nomark _)) (pe_one (pe_cmpR op_eq (pe_cal C hr (pa_cons (pe_callB call_abs (by rfl) T.abs (by decide +kernel) (pa_cons (pe_num K 0) pa_nil)) (pa_cons (pe_den K 0) pa_nil))) pe_int (nomark _)))))), ?_⟩
    have hd := r.den_pos
    obtain ⟨a, rfl, hs⟩ := id hv
    refine ⟨_, rfl, a, _, 2, rfl, hs, rfl, true, rfl, iteF ⟨_, rfl, r, hv, rfl, r.num, rfl, true, rfl, iteF ⟨_, rfl, r, hv, rfl, _, rfl, true, rfl, iteF ?_⟩⟩⟩
    refine ⟨_, rfl, r, hv, rfl, _, _, rfl, rfl, _, rfl, ite2 (fun _ => ?_) (fun e => absurd (decide_eq_true (by omega)) e)⟩
    refine ⟨_, rfl, r, hv, rfl, r.num, rfl, _, rfl, r, hv, rfl, r.num.natAbs, r.den, ?_, rfl, ?_⟩
    · have e : (if r.num < 0 then -r.num else r.num) = (r.num.natAbs : Int) := by
        split <;> omega
      rw [e]
      rfl
    · have e : Nat.gcd r.num.natAbs r.den = 1 := r.reduced
      have e2 : decide ((V.int ((1 : Nat) : Int)) = V.int 1) = true := decide_eq_true rfl
      rw [e, e2]
      exact q
/-! ### is_stretch -/
abbrev sStretch : Stmt := topS 36
abbrev nStretch : List Str := ["value", "least", "greatest", "end"]
theorem scStretch : FnScope nStretch ["value", "least", "greatest"] (defScope sStretch) := ⟨rfl, rfl, rfl, by decide +kernel, rfl, by decide +kernel, by decide +kernel⟩
def spStretch (K : PySem.W.Frag) : Sp := fun vs H Q _ => ∃ (v : V) (p : Int × Int) (l g : Int), vs = [v, .int l, .int g] ∧ Dp K H v (dSt p) ∧ l ≤ p.1 ∧ p.1 ≤ p.2 ∧ p.2 ≤ g ∧ ∀ H', Same H H' → Q (.bl true) H'
theorem c_stretch (D : DefAt K mg "is_stretch" sStretch ["value", "least", "greatest"]) (T : Bn mg) (To : Cal P w K mg base 1 "is_tuple_of" ["value", "many"] (spTupOf K)) (I : Cal P w K mg base 2 "is_integer" ["value", "least", "greatest"] spInteger) :
    Cal P w K mg base 3 "is_stretch" ["value", "least", "greatest"] (spStretch K) := by
  refine D.cal fun f fd F => ?_
  refine F.ok scStretch (fun vs H Q E h => ?_) (fun cdv A outer s H vs Q E hr h => ?_)
  · obtain ⟨v, p, l, g, rfl, _⟩ := h
    rfl
  · obtain ⟨v, p, l, g, rfl, hv, h1, h2, h3, q⟩ := h
    refine ⟨_, pss_cons (ps_if (pw_or (pt_not (pt_val (pe_cal To hr (pa_cons (pv 0) (pa_cons pe_int pa_nil))))) (pw_or1 (pt_not (pt_val (pe_callB (cr_all rfl) (by rfl) T.all (by decide +kernel) (pa_cons
        (pe_lc (own := [("end", 3)]) (g := gName 3) (tt := tYes) rfl scStretch.nd (pi_tup (pv 0)) (blkOk_by (own := [("end", 3)]) (N := nStretch) (sc := defScope sStretch) (by decide +kernel)) (fun _ _ _ _ _ => pg_name (i := 3) scStretch.nd rfl (.inl rfl)) (fun _ _ _ _ _ => pts_nil)
          (fun _ _ _ _ _ => pe_cal I hr (pa_cons (pv 3) (pa_cons (pv 1) (pa_cons (pv 2) pa_nil))))) pa_nil)))))).pt pss_never pss_nil)
      (pss_one (ps_ret (pe_cmpR op_le (pe_ix (ix_tupK K) (pv 0) pe_int (fun _ _ => rfl)) (pe_ix (ix_tupK K) (pv 0) pe_int (fun _ _ => rfl)) (nomark _)))), ?_⟩
    obtain ⟨a, rfl, hs⟩ := st_of hv
    refine ⟨_, rfl, a, _, 2, rfl, hs, rfl, true, rfl, iteF ⟨_, rfl, a, rfl, ⟨_, hs⟩, fun D hD => ?_⟩⟩
    refine lc_map (K := K) walk_tup [] (List.replicate 2 (.bool true)) Xin.nil hD (by rw [List.length_replicate]; rfl) (by show 2 ≤ 1000; decide) (fun H2 s2 => s2.tup hs) ?_ fun H2 s2 ho => ?_
    · rintro i x H2 H3 d Q2 hd s2 sc hX2 ⟨rfl, ex⟩ k
      obtain ⟨hi, rfl⟩ := rep_at hd
      have hx : ∃ n, x = .int n ∧ l ≤ n ∧ n ≤ g := by
        match i, hi, ex with
        | 0, _, ex =>
          cases ex
          exact ⟨_, rfl, h1, by omega⟩
        | 1, _, ex =>
          cases ex
          exact ⟨_, rfl, by omega, h3⟩
      obtain ⟨n, rfl, n1, n2⟩ := hx
      exact ⟨rfl, _, rfl, _, rfl, _, rfl, n, l, g, rfl, n1, n2, k _ _ (Same.refl _) (.bl true)⟩
    · rw [cut_nil] at ho
      obtain ⟨aD, eD, hsD, hall⟩ := yes_of (n := 2) ho
      cases eD
      refine ⟨_, _, rfl, hsD, true, by rw [hall], iteF ?_⟩
      have hs2 := s2.tup hs
      refine ⟨_, rfl, a, _, _, _, rfl, rfl, hs2, atI_nat (j := 0) rfl, _, rfl, a, _, _, _, rfl, rfl, hs2, atI_nat (j := 1) rfl, _, _, rfl, rfl, ?_⟩
      show Q (.bl (decide (p.1 ≤ p.2))) H2
      rw [decide_eq_true h2]
      exact q H2 s2
/-! ### totals -/
def mTotal (ps : List Rat) : Rat := ps.foldl (· + ·) 0
theorem sz_plus {a b : Rat} {n m : Nat} (ha : Sz n a) (hb : Sz m b) : Sz (n + m + 1) (a + b) := by
  rw [Rat.add_def, Rat.normalize_eq_mkRat]
  have h1 := wide_lt ha.1 (show (b.den : Int).natAbs < 2 ^ m from hb.2)
  have h2 := wide_lt hb.1 (show (a.den : Int).natAbs < 2 ^ n from ha.2)
  have e1 : 2 ^ (m + n) = 2 ^ (n + m) := by rw [Nat.add_comm]
  rw [e1] at h2
  refine sz_mk (Nat.mul_pos a.den_pos b.den_pos) ?_ ?_
  · have e : 2 ^ (n + m + 1) = 2 ^ (n + m) + 2 ^ (n + m) := by rw [Nat.pow_succ]; omega
    rw [e]
    have := Int.natAbs_add_le (a.num * b.den) (b.num * a.den)
    omega
  · rw [Nat.pow_succ, Nat.pow_add]
    have := Nat.mul_lt_mul'' ha.2 hb.2
    omega
theorem mTotal_sz {ps : List Rat} (hz : SzAll 420 ps) : ∀ i, i ≤ ps.length → Sz (421 * i + 1) (mTotal (ps.take i))
  | 0, _ => sz_zero (by decide)
  | i + 1, h => by
    have e1 : ps[i]? = some ps[i] := List.getElem?_eq_getElem (by omega)
    have e : mTotal (ps.take (i + 1)) = mTotal (ps.take i) + ps[i] := by
      rw [List.take_add_one, e1]
      exact List.foldl_append
    rw [e]
    exact (sz_plus (mTotal_sz hz i (by omega)) (hz _ (List.getElem_mem _))).mono (by omega)
abbrev sTotal : Stmt := topS 38
theorem scTotal : FnScope ["parts", "found", "part"] ["parts"] (defScope sTotal) := ⟨rfl, rfl, rfl, by decide +kernel, rfl, by decide +kernel, by decide +kernel⟩

def spTotalL (K : PySem.W.Frag) : Sp := fun vs H Q _ => ∃ (X : List Addr) (v : V) (ps : List Rat), vs = [v] ∧ Xin X H ∧ Dp K (cutH X H) v (fRow ps) ∧ ps.length ≤ 4 ∧ SzAll 420 ps ∧ ∀ H' v', Same H H' → Fr K H' v' (mTotal ps) → Q v' H'
theorem c_totalL (D : DefAt K mg "total_of" sTotal ["parts"]) (Z : Cst K mg "ZERO" 0) (Pl : Cal P w K mg base 3 "plus" ["one", "other"] (spTwo K (· + ·))) : Cal P w K mg base 4 "total_of" ["parts"] (spTotalL K) := by
  refine D.cal fun f fd F => ?_
  refine F.ok scTotal (fun vs H Q E h => ?_) (fun cdv A outer s H vs Q E hr h => ?_)
  · obtain ⟨X, v, ps, rfl, _⟩ := h
    rfl
  · obtain ⟨X, v, ps, rfl, hX, hv, hl, hz, q⟩ := h
    refine ⟨_, pss_cons (ps_set (i := 1) scTotal.nd rfl (.inl rfl) (pe_cst Z)) (pss_cons (ps_for PassesOwn.never rfl (pi_list (pv 0)) (pg_name (i := 2) scTotal.nd rfl (.inl rfl))
      (pss_one (ps_set (i := 1) scTotal.nd rfl (.inl rfl) (pe_cal Pl hr (pa_cons (pv 1) (pa_cons (pv 2) pa_nil)))))) (pss_one (ps_ret (pv 1)))), ?_⟩
    obtain ⟨a, xs, rfl, hs, hd⟩ := hv.list
    intro vz hvz
    have lx : xs.length = ps.length := by rw [hd.length, frs_len]
    refine ⟨_, rfl, a, rfl, ⟨_, cut_same.seq hs⟩, ?_⟩
    refine for_it walk_list (fun i σ H2 => ∃ vf f2, σ = [some (.ref a), some vf, f2] ∧ Same H H2 ∧ Fr K H2 vf (mTotal (ps.take i))) ⟨vz, none, rfl, Same.refl _, hvz⟩ (fun i σ H2 _ ⟨_, _, _, s2, _⟩ => s2.seq (cut_same.seq hs)) ?_ ?_
    · rintro i x σ H2 H3 hi ⟨vf, f2, rfl, s2, hvf⟩ ⟨rfl, ex⟩
      obtain ⟨q1, eq1, hq1⟩ := frs_at hd ex
      refine ⟨_, rfl, _, rfl, vf, x, _, q1, rfl, hvf, hq1.same (cut_same.trans s2), (mTotal_sz hz i (by omega)).mono (by omega), (hz q1 (List.mem_of_getElem? eq1)).mono (by decide), fun H4 v4 s4 hv4 => ?_⟩
      refine ⟨v4, _, rfl, s2.trans s4, ?_⟩
      have e : mTotal (ps.take (i + 1)) = mTotal (ps.take i) + q1 := by
        rw [List.take_add_one, eq1]
        exact List.foldl_append
      rw [e]
      exact hv4
    · rintro σ H2 ⟨vf, f2, rfl, s2, hvf⟩
      rw [List.take_of_length_le (by omega)] at hvf
      exact ⟨_, rfl, q H2 _ s2 hvf⟩

def spTotalT (K : PySem.W.Frag) : Sp := fun vs H Q _ => ∃ (X : List Addr) (v : V) (ps : List Rat), vs = [v] ∧ Xin X H ∧ Dp K (cutH X H) v (fTup ps) ∧ ps.length ≤ 4 ∧ SzAll 420 ps ∧ ∀ H' v', Same H H' → Fr K H' v' (mTotal ps) → Q v' H'
theorem c_totalT (D : DefAt K mg "total_of" sTotal ["parts"]) (Z : Cst K mg "ZERO" 0) (Pl : Cal P w K mg base 3 "plus" ["one", "other"] (spTwo K (· + ·))) : Cal P w K mg base 4 "total_of" ["parts"] (spTotalT K) := by
  refine D.cal fun f fd F => ?_
  refine F.ok scTotal (fun vs H Q E h => ?_) (fun cdv A outer s H vs Q E hr h => ?_)
  · obtain ⟨X, v, ps, rfl, _⟩ := h
    rfl
  · obtain ⟨X, v, ps, rfl, hX, hv, hl, hz, q⟩ := h
    refine ⟨_, pss_cons (ps_set (i := 1) scTotal.nd rfl (.inl rfl) (pe_cst Z)) (pss_cons (ps_for PassesOwn.never rfl (pi_tup (pv 0)) (pg_name (i := 2) scTotal.nd rfl (.inl rfl))
      (pss_one (ps_set (i := 1) scTotal.nd rfl (.inl rfl) (pe_cal Pl hr (pa_cons (pv 1) (pa_cons (pv 2) pa_nil)))))) (pss_one (ps_ret (pv 1)))), ?_⟩
    obtain ⟨a, xs, rfl, hs, hd⟩ := hv.tuple
    intro vz hvz
    have lx : xs.length = ps.length := by rw [hd.length, frs_len]
    refine ⟨_, rfl, a, rfl, ⟨_, cut_same.tup hs⟩, ?_⟩
    refine for_it walk_tup (fun i σ H2 => ∃ vf f2, σ = [some (.ref a), some vf, f2] ∧ Same H H2 ∧ Fr K H2 vf (mTotal (ps.take i))) ⟨vz, none, rfl, Same.refl _, hvz⟩ (fun i σ H2 _ ⟨_, _, _, s2, _⟩ => s2.tup (cut_same.tup hs)) ?_ ?_
    · rintro i x σ H2 H3 hi ⟨vf, f2, rfl, s2, hvf⟩ ⟨rfl, ex⟩
      obtain ⟨q1, eq1, hq1⟩ := frs_at hd ex
      refine ⟨_, rfl, _, rfl, vf, x, _, q1, rfl, hvf, hq1.same (cut_same.trans s2), (mTotal_sz hz i (by omega)).mono (by omega), (hz q1 (List.mem_of_getElem? eq1)).mono (by decide), fun H4 v4 s4 hv4 => ?_⟩
      refine ⟨v4, _, rfl, s2.trans s4, ?_⟩
      have e : mTotal (ps.take (i + 1)) = mTotal (ps.take i) + q1 := by
        rw [List.take_add_one, eq1]
        exact List.foldl_append
      rw [e]
      exact hv4
    · rintro σ H2 ⟨vf, f2, rfl, s2, hvf⟩
      rw [List.take_of_length_le (by omega)] at hvf
      exact ⟨_, rfl, q H2 _ s2 hvf⟩
end
end Cs
set_option Elab.async false
set_option linter.all false
set_option maxRecDepth 100000
set_option maxHeartbeats 8000000
/-! mixes, weighed, signs_of, is_name -/
namespace Cs
open PySem PySem.Spec PyProof.Rows L2
/-! ### rules that name K -/
section
variable {X : Cx} {e : Expr} {es : List Expr} {te : TE} {t : TA} {p : Pos} {tg : Expr}
theorem pa_starK (K : PySem.W.Frag) (he : PE X e te) (hr : PA X es t) (hs : starEach (.Starred e p :: es) X.env = (true, eval e X.env) :: starEach es X.env := by rfl) (h : X.K = K := by rfl) : PA X (.Starred e p :: es) (StX.tStar K te t) := h ▸ StX.pa_star he hr hs
theorem pi_tupK (K : PySem.W.Frag) (he : PE X e te) (h : X.K = K := by rfl) : PI X tg e (iTup K te) := h ▸ pi_tup he
theorem pi_listK (K : PySem.W.Frag) (he : PE X e te) (h : X.K = K := by rfl) : PI X tg e (iList K te) := h ▸ pi_list he
end
/-! ### two fors in a comprehension -/
section
variable {J : It} {n : Nat} {G : Hp → Prop} {Y : Nat → Hp → V → Hp → Prop} {K : PySem.W.Frag}
theorem lc2_it (w : Walk J n G Y) {g g1 : TG} {tt tt1 : TT} {wi1 : TI} {te : TE} {vs vs1 : List Nat} {σ : L2.St} {H1 : Hp} {D : Addr} {Qd : Hp → Prop} (Pv : Nat → Hp → Prop) (h0 : Pv 0 (upd H1 D (.lst []))) (hG : ∀ i H, i ≤ n → Pv i H → G H)
    (hs : ∀ i x H H', i < n → Pv i H → Y i H x H' → g x (wipe σ vs) H' fun σ2 H2 => wipe σ2 vs = wipe σ vs ∧ tt σ2 H2 fun b H3 =>
      if b = true then wi1 σ2 H3 fun J1 H4 => ∃ W1 : Nat → Nat → Hp → Prop, (∃ m, W1 0 m H4) ∧ ∀ j k H, W1 j k H →
        (J1.stop j H ∧ Pv (i + 1) H) ∨ (J1.go j H ∧ ∃ Nx1 : Hp → Prop, (∀ H', Nx1 H' → ∃ k', k' < k ∧ W1 (j + 1) k' H') ∧ ∀ x H', J1.yld j H x H' → g1 x (wipe σ2 vs1) H' fun σ3 H5 => wipe σ3 vs1 = wipe σ2 vs1 ∧ tt1 σ3 H5 fun b H6 =>
          if b = true then te σ3 H6 fun y H7 => ∃ acc, H7 D = some (.lst acc) ∧ acc.length < sizeLine ∧ Nx1 (upd H7 D (.lst (acc ++ [y]))) else Nx1 H6)
      else Pv (i + 1) H3) (hd : ∀ H, Pv n H → Qd H) :
    ∃ W : Nat → Nat → Hp → Prop, (∃ m, W 0 m (upd H1 D (.lst []))) ∧ ∀ i m H, W i m H →
  (J.stop i H ∧ Qd H) ∨ (J.go i H ∧ ∃ Nx : Hp → Prop, (∀ H', Nx H' → ∃ m', m' < m ∧ W (i + 1) m' H') ∧ ∀ x H', J.yld i H x H' → g x (wipe σ vs) H' fun σ2 H2 => wipe σ2 vs = wipe σ vs ∧ tt σ2 H2 fun b H3 =>
    if b = true then wi1 σ2 H3 fun J1 H4 => ∃ W1 : Nat → Nat → Hp → Prop, (∃ m, W1 0 m H4) ∧ ∀ j k H, W1 j k H →
      (J1.stop j H ∧ Nx H) ∨ (J1.go j H ∧ ∃ Nx1 : Hp → Prop, (∀ H', Nx1 H' → ∃ k', k' < k ∧ W1 (j + 1) k' H') ∧ ∀ x H', J1.yld j H x H' → g1 x (wipe σ2 vs1) H' fun σ3 H5 => wipe σ3 vs1 = wipe σ2 vs1 ∧ tt1 σ3 H5 fun b H6 =>
        if b = true then te σ3 H6 fun y H7 => ∃ acc, H7 D = some (.lst acc) ∧ acc.length < sizeLine ∧ Nx1 (upd H7 D (.lst (acc ++ [y]))) else Nx1 H6)
    else Nx H3) := by
  refine ⟨fun i m H => m = n - i ∧ i ≤ n ∧ Pv i H, ⟨n, by simp, Nat.zero_le _, h0⟩, ?_⟩
  rintro i m H ⟨rfl, hi, p⟩
  have q := hG i H hi p
  by_cases hlt : i < n
  · refine .inr ⟨w.goes i H hlt q, Pv (i + 1), fun H' p' => ⟨n - (i + 1), by omega, rfl, hlt, p'⟩, fun x H' y => hs i x H H' hlt p (w.yields i H x H' hlt q y)⟩
  · have e : i = n := by omega
    subst e
    exact .inl ⟨w.stops H q, hd H p⟩
theorem lc2_in {J1 : It} {n : Nat} {G : Hp → Prop} {Y : Nat → Hp → V → Hp → Prop} (w : Walk J1 n G Y) {g1 : TG} {tt1 : TT} {te : TE} {vs1 : List Nat} {σ2 : L2.St} {H4 : Hp} {D : Addr} {Nx : Hp → Prop} (Pv : Nat → Hp → Prop) (h0 : Pv 0 H4) (hG : ∀ i H, i ≤ n → Pv i H → G H)
    (hs : ∀ i x H H', i < n → Pv i H → Y i H x H' → g1 x (wipe σ2 vs1) H' fun σ3 H5 => wipe σ3 vs1 = wipe σ2 vs1 ∧ tt1 σ3 H5 fun b H6 =>
        if b = true then te σ3 H6 fun y H7 => ∃ acc, H7 D = some (.lst acc) ∧ acc.length < sizeLine ∧ Pv (i + 1) (upd H7 D (.lst (acc ++ [y]))) else Pv (i + 1) H6) (hd : ∀ H, Pv n H → Nx H) :
    ∃ W1 : Nat → Nat → Hp → Prop, (∃ m, W1 0 m H4) ∧ ∀ j k H, W1 j k H →
      (J1.stop j H ∧ Nx H) ∨ (J1.go j H ∧ ∃ Nx1 : Hp → Prop, (∀ H', Nx1 H' → ∃ k', k' < k ∧ W1 (j + 1) k' H') ∧ ∀ x H', J1.yld j H x H' → g1 x (wipe σ2 vs1) H' fun σ3 H5 => wipe σ3 vs1 = wipe σ2 vs1 ∧ tt1 σ3 H5 fun b H6 =>
        if b = true then te σ3 H6 fun y H7 => ∃ acc, H7 D = some (.lst acc) ∧ acc.length < sizeLine ∧ Nx1 (upd H7 D (.lst (acc ++ [y]))) else Nx1 H6) := by
  refine ⟨fun i m H => m = n - i ∧ i ≤ n ∧ Pv i H, ⟨n, by simp, Nat.zero_le _, h0⟩, ?_⟩
  rintro i m H ⟨rfl, hi, p⟩
  have q := hG i H hi p
  by_cases hlt : i < n
  · refine .inr ⟨w.goes i H hlt q, Pv (i + 1), fun H' p' => ⟨n - (i + 1), by omega, rfl, hlt, p'⟩, fun x H' y => hs i x H H' hlt p (w.yields i H x H' hlt q y)⟩
  · have e : i = n := by omega
    subst e
    exact .inl ⟨w.stops H q, hd H p⟩
theorem walk_zipT {a b : Addr} {xs ys : List V} {n : Nat} (hn : n = min xs.length ys.length) : Walk (RZ.ItzT K a b) n (fun H => SqT K H a xs ∧ SqT K H b ys) (YPair (fun i => xs[i]?) (fun i => ys[i]?)) := by
  subst hn
  refine ⟨fun i _ hi q => ?_, fun _ q => ⟨xs, ys, q.1, q.2, by omega⟩, fun i H v H' _ q y => ?_⟩
  · have h1 : i < xs.length := by omega
    have h2 : i < ys.length := by omega
    exact ⟨xs, ys, xs[i], ys[i], q.1, q.2, by simp [h1], by simp [h2]⟩
  · obtain ⟨T, x, z, h1, h2, h3, h4, h5⟩ := y
    exact ⟨T, x, z, h1, h2, h3, h4 xs q.1, h5 ys q.2⟩
end
section
variable {P : Program} {w : World} {K : PySem.W.Frag} {mg : Str → Option Value} {base : Heap}
/-! ### is_share_row, is_mix -/
abbrev sShare : Stmt := topS 37
abbrev nShare : List Str := ["value", "many", "part"]
theorem scShare : FnScope nShare ["value", "many"] (defScope sShare) := ⟨rfl, rfl, rfl, by decide +kernel, rfl, by decide +kernel, by decide +kernel⟩
def spShare (K : PySem.W.Frag) : Sp := fun vs H Q _ => ∃ (X : List Addr) (v : V) (ps : List Rat), vs = [v, .int (ps.length : Nat)] ∧ Xin X H ∧ Dp K (cutH X H) v (fTup ps) ∧ ps.length ≤ 1000 ∧ (∀ q ∈ ps, 0 ≤ q) ∧ ∀ H', Same H H' → Q (.bl true) H'
theorem c_share (D : DefAt K mg "is_share_row" sShare ["value", "many"]) (T : Bn mg) (To : Cal P w K mg base 1 "is_tuple_of" ["value", "many"] (spTupOf K)) (Fc : Cal P w K mg base 2 "is_fraction" ["value"] (spFraction K)) :
    Cal P w K mg base 3 "is_share_row" ["value", "many"] (spShare K) := by
  refine D.cal fun f fd F => ?_
  refine F.ok scShare (fun vs H Q E h => ?_) (fun cdv A outer s H vs Q E hr h => ?_)
  · obtain ⟨X, v, ps, rfl, _⟩ := h
    rfl
  · obtain ⟨X, v, ps, rfl, hX, hv, hl, h0, q⟩ := h
    refine ⟨_, pss_one (ps_ret (pe_and (pe_cal To hr (pa_cons (pv 0) (pa_cons (pv 1) pa_nil))) (pe_one (pe_callB (cr_all rfl) (by rfl) T.all (by decide +kernel) (pa_cons
        (pe_lc (own := [("part", 2)]) (g := gName 2) (tt := tYes) rfl scShare.nd (pi_tup (pv 0)) (blkOk_by (own := [("part", 2)]) (N := nShare) (sc := defScope sShare) (by decide +kernel)) (fun _ _ _ _ _ => pg_name (i := 2) scShare.nd rfl (.inl rfl)) (fun _ _ _ _ _ => pts_nil)
          (fun _ _ _ _ _ => pe_and (pe_cal Fc hr (pa_cons (pv 2) pa_nil)) (pe_one (pe_cmpR op_ge (pe_num K 2) pe_int (nomark _))))) pa_nil))))), ?_⟩
    obtain ⟨a, xs, rfl, hs, hd⟩ := hv.tuple
    have lx : xs.length = ps.length := by rw [hd.length, frs_len]
    have hs0 := cut_same.tup hs
    refine ⟨_, rfl, _, rfl, a, xs, (ps.length : Nat), rfl, hs0, by omega, true, rfl, iteT ⟨_, rfl, a, rfl, ⟨_, hs0⟩, fun D hD => ?_⟩⟩
    refine lc_map (K := K) walk_tup [] (List.replicate ps.length (.bool true)) Xin.nil hD (by rw [List.length_replicate]; omega) (by omega) (fun H2 s2 => s2.tup hs0) ?_ fun H2 s2 ho => ?_
    · rintro i x H2 H3 d Q2 hd2 s2 sc hX2 ⟨rfl, ex⟩ k
      obtain ⟨hi, rfl⟩ := rep_at hd2
      obtain ⟨r, er, hr2⟩ := frs_at hd ex
      have hr2 := hr2.same (cut_same.trans s2)
      have h0r : 0 ≤ r.num := Rat.num_nonneg.mpr (h0 r (List.mem_of_getElem? er))
      refine ⟨rfl, _, rfl, x, r, rfl, hr2, true, rfl, iteT ⟨_, rfl, r, hr2, rfl, _, _, rfl, rfl, ?_⟩⟩
      refine k _ _ (Same.refl _) ?_
      show Dp K _ (.bl (decide ((0 : Int) ≤ r.num))) _
      rw [show decide ((0 : Int) ≤ r.num) = true from decide_eq_true h0r]
      exact .bl true
    · rw [cut_nil] at ho
      obtain ⟨aD, eD, hsD, hall⟩ := yes_of (n := ps.length) ho
      cases eD
      refine ⟨_, _, rfl, hsD, ?_⟩
      rw [hall]
      exact q H2 s2
abbrev sMix : Stmt := topS 39
theorem scMix : FnScope ["value", "many"] ["value", "many"] (defScope sMix) := ⟨rfl, rfl, rfl, by decide +kernel, rfl, by decide +kernel, by decide +kernel⟩
def spMix (K : PySem.W.Frag) : Sp := fun vs H Q _ => ∃ (X : List Addr) (v : V) (ps : List Rat), vs = [v, .int (ps.length : Nat)] ∧ Xin X H ∧ Dp K (cutH X H) v (fTup ps) ∧ ps.length ≤ 4 ∧ SzAll 420 ps ∧ (∀ q ∈ ps, 0 ≤ q) ∧ mTotal ps = 1 ∧ ∀ H', Same H H' → Q (.bl true) H'
theorem c_mix (D : DefAt K mg "is_mix" sMix ["value", "many"]) (O : Cst K mg "ONE" 1) (S : Cal P w K mg base 3 "is_share_row" ["value", "many"] (spShare K)) (To : Cal P w K mg base 4 "total_of" ["parts"] (spTotalT K)) :
    Cal P w K mg base 5 "is_mix" ["value", "many"] (spMix K) := by
  refine D.cal fun f fd F => ?_
  refine F.ok scMix (fun vs H Q E h => ?_) (fun cdv A outer s H vs Q E hr h => ?_)
  · obtain ⟨X, v, ps, rfl, _⟩ := h
    rfl
  · obtain ⟨X, v, ps, rfl, hX, hv, hl, hz, h0, h1, q⟩ := h
    refine ⟨_, pss_one (ps_ret (pe_and (pe_cal S hr (pa_cons (pv 0) (pa_cons (pv 1) pa_nil))) (pe_one (pe_cmpR (op_eqK K hr.units) (pe_cal To hr (pa_cons (pv 0) pa_nil)) (pe_cst O) (nomark _))))), ?_⟩
    refine ⟨_, rfl, _, rfl, X, v, ps, rfl, hX, hv, by omega, h0, fun H2 s2 => ⟨true, rfl, iteT ⟨_, rfl, X, v, ps, rfl, hX.same s2, hv.same (same_cut s2), hl, hz, fun H3 v3 s3 hv3 vo hvo => ⟨_, fr 1, hv3.dp, hvo.dp, rfl, rfl, ?_⟩⟩⟩⟩
    rw [fr_eqv, h1, decide_eq_true rfl]
    exact q H3 (s2.trans s3)
/-! ### weighed -/
abbrev sWeighed : Stmt := topS 40
abbrev nWeighed : List Str := ["parts", "numbers", "part", "number"]
theorem scWeighed : FnScope nWeighed ["parts", "numbers"] (defScope sWeighed) := ⟨rfl, rfl, rfl, by decide +kernel, rfl, by decide +kernel, by decide +kernel⟩
def mWeighed (ps : List Rat) (ns : List Int) : Rat := mTotal (List.zipWith (fun p (n : Int) => p * n) ps ns)
def iTup' (ns : List Int) : PyData := .tuple (ns.map .int)
theorem sz_num {n : Int} {k : Nat} (h : n.natAbs < 2 ^ k) (hk : 1 ≤ k) : Sz k (n : Rat) := ⟨by rw [Rat.num_intCast]; exact h, by rw [Rat.den_intCast]; exact Nat.one_lt_pow (by omega) (by decide)⟩
theorem ints_at {H : Hp} {xs : List V} {ns : List Int} {i : Nat} {x : V} (h : DpAll K H xs (ns.map .int)) (e : xs[i]? = some x) : ∃ n, ns[i]? = some n ∧ x = .int n := by
  rw [DpAll.ints_eq h, List.getElem?_map] at e
  cases e2 : ns[i]? with
  | none =>
    rw [e2] at e
    cases e
  | some n =>
    rw [e2] at e
    exact ⟨n, rfl, (Option.some.inj e).symm⟩
def spWeighed (K : PySem.W.Frag) : Sp := fun vs H Q _ => ∃ (X : List Addr) (v vn : V) (ps : List Rat) (ns : List Int), vs = [v, vn] ∧ Xin X H ∧ Dp K (cutH X H) v (fTup ps) ∧ Dp K (cutH X H) vn (iTup' ns) ∧ ps.length = ns.length ∧ ps.length ≤ 4 ∧ SzAll 400 ps ∧ (∀ n ∈ ns, n.natAbs < 2 ^ 20) ∧
  ∀ H' v', Same H H' → Fr K H' v' (mWeighed ps ns) → Q v' H'
theorem c_weighed (D : DefAt K mg "weighed" sWeighed ["parts", "numbers"]) (T : Bn mg) (Ti : Cal P w K mg base 3 "times" ["one", "other"] (spTwo K (· * ·))) (To : Cal P w K mg base 4 "total_of" ["parts"] (spTotalL K)) :
    Cal P w K mg base 5 "weighed" ["parts", "numbers"] (spWeighed K) := by
  refine D.cal fun f fd F => ?_
  refine F.ok scWeighed (fun vs H Q E h => ?_) (fun cdv A outer s H vs Q E hr h => ?_)
  · obtain ⟨X, v, vn, ps, ns, rfl, _⟩ := h
    rfl
  · obtain ⟨X, v, vn, ps, ns, rfl, hX, hv, hn, hlen, hl, hz, hnz, q⟩ := h
    refine ⟨_, pss_one (ps_ret (pe_cal To hr (pa_cons (pe_lc (own := [("part", 2), ("number", 3)]) (g := gTup K 2 (gCons (gName 2) (gCons (gName 3) gNil))) (tt := tYes) rfl scWeighed.nd (RZ.pi_zipA (by rfl) T.zip (pa_cons (pv 0) (pa_cons (pv 1) pa_nil)))
        (blkOk_by (own := [("part", 2), ("number", 3)]) (N := nWeighed) (sc := defScope sWeighed) (by decide +kernel)) (fun _ _ _ _ _ => pg_tup rfl (pgs_cons (pg_name (i := 2) scWeighed.nd rfl (.inl rfl)) (pgs_cons (pg_name (i := 3) scWeighed.nd rfl (.inl rfl)) pgs_nil))) (fun _ _ _ _ _ => pts_nil)
        (fun _ _ _ _ _ => pe_cal Ti hr (pa_cons (pv 2) (pa_cons (pe_tup (pa_cons (pv 3) (pa_cons pe_int pa_nil))) pa_nil)))) pa_nil))), ?_⟩
    obtain ⟨a, xs, rfl, hs, hd⟩ := hv.tuple
    obtain ⟨b, ys, rfl, hsb, hdb⟩ := hn.tuple
    have lx : xs.length = ps.length := by rw [hd.length, frs_len]
    have ly : ys.length = ns.length := by rw [hdb.length, List.length_map]
    have hs0 := cut_same.tup hs
    have hsb0 := cut_same.tup hsb
    have lw : (List.zipWith (fun p (n : Int) => p * (n : Rat)) ps ns).length = ps.length := by
      rw [List.length_zipWith]
      omega
    refine ⟨_, rfl, _, rfl, a, b, xs, ys, rfl, .inr ⟨hs0, hsb0, fun D hD => ?_⟩⟩
    refine lc_map (K := K) (walk_zipT (n := ps.length) (by omega)) X (frs (List.zipWith (fun p (n : Int) => p * (n : Rat)) ps ns)) hX hD (by rw [frs_len, lw]) (by omega) (fun H2 s2 => ⟨s2.tup hs0, s2.tup hsb0⟩) ?_ fun H2 s2 ho => ?_
    · rintro i v H2 H3 d Q2 hd2 s2 sc hX2 ⟨T2, x, y, rfl, nT, rfl, ex, ey⟩ k
      obtain ⟨p, ep, hp⟩ := frs_at hd ex
      obtain ⟨n, en, rfl⟩ := ints_at hdb ey
      have e : d = fr (p * (n : Rat)) := by
        have z : (frs (List.zipWith (fun p (n : Int) => p * (n : Rat)) ps ns))[i]? = some (fr (p * (n : Rat))) := by
          unfold frs
          rw [List.getElem?_map, List.getElem?_zipWith, ep, en]
          rfl
        rw [hd2] at z
        exact Option.some.inj z
      subst e
      have s3 : Same H2 (upd H2 T2 (.tup [x, .int n])) := Same.new nT
      have zn := hnz n (List.mem_of_getElem? en)
      refine g_pair ⟨rfl, ?_⟩
      refine ⟨_, rfl, _, rfl, (by show 2 ≤ sizeLine; decide), fun p2 np2 => ?_⟩
      have s4 := Same.new (o := .tup [.int n, .int 1]) np2
      refine ⟨x, .ref p2, p, (n : Rat), rfl, hp.same (cut_same.trans (s2.trans (s3.trans s4))), fr_new (by rw [Rat.num_intCast]) (by rw [Rat.den_intCast]; rfl), (hz p (List.mem_of_getElem? ep)).mono (by decide), (sz_num zn (by decide)).mono (by decide), fun H5 v5 s5 hv5 => ?_⟩
      exact k _ _ (s3.trans (s4.trans s5)) (hv5.cut (hX2.same (s3.trans (s4.trans s5)))).dp
    · refine ⟨X, _, _, rfl, hX.same s2, ho, by omega, fun r hr2 => ?_, fun H3 v3 s3 hv3 => q H3 v3 (s2.trans s3) hv3⟩
      obtain ⟨i, hi, e⟩ := List.mem_iff_getElem.mp hr2
      rw [List.getElem_zipWith] at e
      rw [← e]
      exact (sz_times (hz _ (List.getElem_mem _)) (sz_num (hnz _ (List.getElem_mem _)) (by decide))).mono (by decide)
end
end Cs
set_option Elab.async false
set_option linter.all false
set_option maxRecDepth 100000
set_option maxHeartbeats 8000000
/-! is_name, signs_of -/
namespace Cs
open PySem PySem.Spec PyProof.Rows L2
/-! ### ints and texts of the module -/
def GI (mg : Str → Option Value) (x : Str) (i : Int) : Prop := ∃ t, mg x = some (.int i t)
def GS (mg : Str → Option Value) (x : Str) (z : Str) : Prop := ∃ t, mg x = some (.str z t)
section
variable {X : Cx}
theorem pe_gi {mg : Str → Option Value} {x : Str} {i : Int} {pos : Pos} (c : GI mg x i) (hg : Gl X x := by rfl) (hd : (x == ("__debug__" : Str)) = false := by decide) (hm : X.mg = mg := by rfl) : PE X (.Name x pos) (tC (.int i)) := by
  subst hm
  obtain ⟨t, h⟩ := c
  exact pe_glob hg h ⟨t, rfl⟩ hd
theorem pe_gs {mg : Str → Option Value} {x : Str} {z : Str} {pos : Pos} (c : GS mg x z) (hg : Gl X x := by rfl) (hd : (x == ("__debug__" : Str)) = false := by decide) (hm : X.mg = mg := by rfl) : PE X (.Name x pos) (tC (.str z)) := by
  subst hm
  obtain ⟨t, h⟩ := c
  exact pe_glob hg h ⟨t, rfl⟩ hd
end
section
variable {P : Program} {w : World} {K : PySem.W.Frag} {mg : Str → Option Value} {base : Heap}
abbrev letters : Str := "abcdefghijklmnopqrstuvwxyz"
/-- a name that is taken -/
def NameOk (z : Str) : Prop := 1 ≤ z.length ∧ z.length ≤ 8 ∧ (∀ c ∈ z.cps.toList, c ∈ letters.cps.toList) ∧ PyData.canLay0 (.str z) = true
abbrev sName : Stmt := topS 25
abbrev nName : List Str := ["value", "sign"]
theorem scName : FnScope nName ["value"] (defScope sName) := ⟨rfl, rfl, rfl, by decide +kernel, rfl, by decide +kernel, by decide +kernel⟩
def spName : Sp := fun vs H Q _ => ∃ z : Str, vs = [.str z] ∧ NameOk z ∧ ∀ H', Same H H' → Q (.bl true) H'
theorem c_name (D : DefAt K mg "is_name" sName ["value"]) (T : Bn mg) (L : GS mg "LETTERS" letters) (LN : GI mg "LONGEST_NAME" 8) : Cal P w K mg base 1 "is_name" ["value"] spName := by
  refine D.cal fun f fd F => ?_
  refine F.ok scName (fun vs H Q E h => ?_) (fun cdv A outer s H vs Q E hr h => ?_)
  · obtain ⟨z, rfl, _⟩ := h
    rfl
  · obtain ⟨z, rfl, ⟨h1, h2, h3, _⟩, q⟩ := h
    refine ⟨_, pss_one (ps_ret (pe_and (pe_callB call_isi (by rfl) T.isi (by decide +kernel) (pa_cons (pv 0) (pa_cons (pe_bltn (v := .ty "str") (by rfl) T.str (by decide +kernel) rfl) pa_nil)))
      (pe_and (pe_chain op_le op_le pe_int (pe_callB call_len_str (by rfl) T.len PySem.boot_len (pa_cons (pv 0) pa_nil)) (pe_gi LN))
      (pe_one (pe_callB (cr_all rfl) (by rfl) T.all (by decide +kernel) (pa_cons (pe_lc (own := [("sign", 1)]) (g := gName 1) (tt := tYes) rfl scName.nd (pi_str (pv 0)) (blkOk_by (own := [("sign", 1)]) (N := nName) (sc := defScope sName) (by decide +kernel))
        (fun _ _ _ _ _ => pg_name (i := 1) scName.nd rfl (.inl rfl)) (fun _ _ _ _ _ => pts_nil) (fun _ _ _ _ _ => pe_cmpR op_inS (pv 1) (pe_gs L) (by rfl))) pa_nil)))))), ?_⟩
    refine ⟨_, rfl, _, _, _, _, true, rfl, .ty "str", .base (.str z), kit_ty (by decide +kernel), true, rfl, iteT ?_⟩
    refine ⟨_, rfl, z, rfl, Nat.le_of_lt (small1000 (by omega)), _, _, rfl, rfl, _, rfl, ite2 (fun _ => ⟨_, _, rfl, rfl, _, rfl, ite2 (fun _ => ?_) (fun e => absurd (decide_eq_true (by omega)) e)⟩) (fun e => absurd (decide_eq_true (by omega)) e)⟩
    refine ⟨_, rfl, z, rfl, fun D hD => ?_⟩
    have hz : z.cps.size ≤ 8 := h2
    refine lc_map (K := K) walk_str [] (List.replicate z.cps.size (.bool true)) Xin.nil hD (by rw [List.length_replicate]) (by omega) (fun _ _ => trivial) ?_ fun H2 s2 ho => ?_
    · rintro i x H2 H3 d Q2 hd s2 sc hX2 ⟨rfl, c, ec, rfl⟩ k
      obtain ⟨hi, rfl⟩ := rep_at hd
      have hc : c ∈ letters.cps.toList := h3 c (by
        rw [← Array.getElem?_toList] at ec
        exact List.mem_of_getElem? ec)
      refine ⟨rfl, _, rfl, c, letters, rfl, rfl, k _ _ (Same.refl _) ?_⟩
      rw [decide_eq_true hc]
      exact .bl true
    · rw [cut_nil] at ho
      obtain ⟨aD, eD, hsD, hall⟩ := yes_of (n := z.cps.size) ho
      cases eD
      refine ⟨_, _, rfl, hsD, ?_⟩
      rw [hall]
      exact q H2 s2
/-! ### signs_of -/
abbrev sSigns : Stmt := topS 41
abbrev nSigns : List Str := ["many", "rows", "turn", "row", "sign"]
theorem scSigns : FnScope nSigns ["many"] (defScope sSigns) := ⟨rfl, rfl, rfl, by decide +kernel, rfl, by decide +kernel, by decide +kernel⟩
def mSigns : Nat → List (List Int)
  | 0 => [[]]
  | n + 1 => (mSigns n).flatMap fun r => [r ++ [-1], r ++ [1]]
theorem mSigns_len : ∀ n, (mSigns n).length = 2 ^ n
  | 0 => rfl
  | n + 1 => by
    show ((mSigns n).flatMap fun r => [r ++ [-1], r ++ [1]]).length = _
    rw [List.length_flatMap]
    have h : ((mSigns n).map fun r => [r ++ [-1], r ++ [1]].length).sum = 2 * (mSigns n).length := by
      generalize mSigns n = l
      induction l with
      | nil => rfl
      | cons a r ih =>
        rw [List.map_cons, List.sum_cons, ih]
        simp
        omega
    rw [h, mSigns_len n, Nat.pow_succ]
    omega
theorem mSigns_row : ∀ (n : Nat) (r : List Int), r ∈ mSigns n → n ≤ 3 → r.length ≤ 4 := by
  have h : ∀ (n : Nat) (r : List Int), r ∈ mSigns n → r.length = n := by
    intro n
    induction n with
    | zero =>
      intro r hr
      rcases List.mem_singleton.mp hr with rfl
      rfl
    | succ n ih =>
      intro r hr
      obtain ⟨r0, h0, h1⟩ := List.mem_flatMap.mp hr
      have := ih r0 h0
      rcases List.mem_cons.mp h1 with rfl | h1
      · simp [this]
      · rcases List.mem_singleton.mp h1 with rfl
        simp [this]
  exact fun n r hr hn => by
    rw [h n r hr]
    omega
theorem ints_snoc (r : List Int) (z : Int) : (r ++ [z]).map V.int = r.map V.int ++ [.int z] := by
  rw [List.map_append]
  rfl
def dSigns (n : Nat) : PyData := .list ((mSigns n).map iTup')
def spSigns (K : PySem.W.Frag) : Sp := fun vs H Q _ => ∃ (X : List Addr) (n : Nat), vs = [.int n] ∧ Xin X H ∧ n ≤ 4 ∧ ∀ H' v, Same H H' → Dp K (cutH X H') v (dSigns n) → Q v H'
theorem c_signs (D : DefAt K mg "signs_of" sSigns ["many"]) (T : Bn mg) : Cal P w K mg base 1 "signs_of" ["many"] (spSigns K) := by
  refine D.cal fun f fd F => ?_
  refine F.ok scSigns (fun vs H Q E h => ?_) (fun cdv A outer s H vs Q E hr h => ?_)
  · obtain ⟨X, n, rfl, _⟩ := h
    rfl
  · obtain ⟨X, n, rfl, hX, hn, q⟩ := h
    refine ⟨_, pss_cons (ps_set (i := 1) scSigns.nd rfl (.inl rfl) (pe_lst (pa_cons (pe_tup pa_nil) pa_nil)))
      (pss_cons (ps_for PassesOwn.never rfl (pi_range1 (by rfl) T.range (pa_cons (pv 0) pa_nil)) (pg_name (i := 2) scSigns.nd rfl (.inl rfl))
        (pss_one (ps_setLc2 (i := 1) (own := [("row", 3), ("sign", 4)]) (vs1 := [4]) (g := gName 3) (g1 := gName 4) (tt := tYes) (tt1 := tYes) rfl scSigns.nd rfl rfl (sw_true rfl rfl rfl (by decide +kernel)) (pi_list (pv 1))
          (blkOk_by (own := [("row", 3), ("sign", 4)]) (N := nSigns) (sc := defScope sSigns) (by decide +kernel)) (by decide) (fun _ _ _ _ _ => pg_name (i := 3) scSigns.nd rfl (.inl rfl)) (fun _ _ _ _ _ => pts_nil)
          (fun _ _ _ _ _ => pi_tupK K (pe_tup (pa_cons (pe_op op_sub pe_int pe_int) (pa_cons pe_int pa_nil)))) (fun _ _ _ _ _ => pg_name (i := 4) scSigns.nd rfl (.inl rfl)) (fun _ _ _ _ _ => pts_nil)
          (fun _ _ _ _ _ => pe_tup (pa_starK K (pv 3) (pa_cons (pv 4) pa_nil))))))
      (pss_one (ps_ret (pv 1)))), ?_⟩
    refine ⟨(by show 0 ≤ sizeLine; decide), fun t nt => ⟨(by show 1 ≤ sizeLine; decide), fun l nl => ?_⟩⟩
    have s1 : Same H (upd H t (.tup [])) := Same.new nt
    have s2 : Same (upd H t (.tup [])) (upd (upd H t (.tup [])) l (.lst [.ref t])) := Same.new nl
    have s02 := s1.trans s2
    have e0 : Dp K (cutH X (upd (upd H t (.tup [])) l (.lst [.ref t]))) (.ref l) (dSigns 0) := by
      refine .lst (.inl (.inl (cut_upd ((hX.same s1).new nl)))) (.cons ?_ .nil)
      exact .tup (tup_cut (.inl (.inl (s2 _ _ upd_same))) (hX.same s02)) .nil
    generalize (upd (upd H t (.tup [])) l (.lst [.ref t])) = H1 at s02 e0
    refine ⟨_, rfl, n, rfl, by omega, by omega, ?_⟩
    refine for_it walk_rangeN (fun i σ H2 => ∃ vr f2 f3 f4, σ = [some (.int n), some vr, f2, f3, f4] ∧ Same H H2 ∧ Dp K (cutH X H2) vr (dSigns i)) ⟨_, none, none, none, rfl, s02, e0⟩ (fun _ _ _ _ _ => trivial) ?_ ?_
    · rintro i x σ H2 H3 hi ⟨vr, f2, f3, f4, rfl, s2, hvr⟩ ⟨rfl, rfl⟩
      have hi : i < n := by
        have : i < (n : Int).toNat := hi
        omega
      obtain ⟨a, xs, rfl, hs, hd⟩ := hvr.list
      have lx : xs.length = 2 ^ i := by rw [hd.length, List.length_map, mSigns_len]
      have hpow : 2 ^ i ≤ 2 ^ 4 := Nat.pow_le_pow_right (by decide) (by omega)
      refine ⟨_, rfl, a, rfl, ⟨_, cut_same.seq hs⟩, fun D hD => ?_⟩
      have nDX : D ∉ X := (hX.same s2).new hD
      refine lc2_it walk_list (fun j H4 => Same H3 H4 ∧ ∃ acc, H4 D = some (.lst acc) ∧ DpAll K (cutH (D :: X) H4) acc ((((mSigns i).take j).flatMap fun r => [r ++ [-1], r ++ [1]]).map iTup')) ⟨Same.new hD, [], upd_same, .nil⟩ (fun j H4 _ h => h.1.seq (cut_same.seq hs)) ?_ ?_
      · rintro j x H4 H5 hj ⟨s4, acc, eacc, hacc⟩ ⟨rfl, ex⟩
        have hj16 : j < 16 := by omega
        obtain ⟨d, ed, hx⟩ := hd.at ex
        rw [List.getElem?_map] at ed
        cases er : (mSigns i)[j]? with
        | none =>
          rw [er] at ed
          cases ed
        | some r =>
          rw [er] at ed
          cases ed
          have sc : Same (cutH X H3) (cutH (D :: X) H5) := fun b o h => by
            obtain ⟨h1, h2⟩ := cut_at h
            refine cut_mk (s4 _ _ h1) fun hb => ?_
            rcases List.mem_cons.mp hb with rfl | hb
            · rw [hD] at h1
              cases h1
            · exact h2 hb
          have hx5 := hx.same sc
          obtain ⟨ax, rs, rfl, hsr, hdr⟩ := hx5.tuple
          have ers := DpAll.ints_eq hdr
          have er2 : (mSigns i).take (j + 1) = (mSigns i).take j ++ [r] := by rw [List.take_add_one, er]; rfl
          have lacc : acc.length = 2 * j := by
            rw [hacc.length, List.length_map, List.length_flatMap]
            have h : ∀ l : List (List Int), (l.map fun r => [r ++ [-1], r ++ [1]].length).sum = 2 * l.length := by
              intro l
              induction l with
              | nil => rfl
              | cons a r ih =>
                rw [List.map_cons, List.sum_cons, ih]
                simp
                omega
            rw [h, List.length_take]
            have : j < (mSigns i).length := (List.getElem?_eq_some_iff.mp er).1
            omega
          refine ⟨rfl, ?_⟩
          refine ⟨_, _, rfl, rfl, (by show 2 ≤ sizeLine; decide), fun T nT => ⟨T, rfl, ⟨_, .inl (.inl upd_same)⟩, ?_⟩⟩
          have s5 : Same H5 (upd H5 T (.tup [.int (0 - 1), .int 1])) := Same.new nT
          have eT : (upd H5 T (.tup [.int (0 - 1), .int 1])) T = some (.tup [.int (0 - 1), .int 1]) := upd_same
          generalize (upd H5 T (.tup [.int (0 - 1), .int 1])) = H6 at s5 eT
          refine lc2_in (walk_tup (K := K) (xs := [.int (0 - 1), .int 1])) (fun k H7 => Same H3 H7 ∧ H7 T = some (.tup [.int (0 - 1), .int 1]) ∧ ∃ acc2, H7 D = some (.lst acc2) ∧ DpAll K (cutH (D :: X) H7) acc2 ((((mSigns i).take j).flatMap fun r => [r ++ [-1], r ++ [1]]).map iTup' ++ (([r ++ [-1], r ++ [1]] : List (List Int)).take k).map iTup'))
            ⟨s4.trans s5, eT, acc, s5 _ _ eacc, ?_⟩ (fun k H7 _ h => .inl (.inl h.2.1)) ?_ ?_
          · rw [List.take_zero, List.map_nil, List.append_nil]
            exact hacc.same (same_cut s5)
          · rintro k y H7 H8 hk ⟨s7, eT7, acc2, eacc2, hacc2⟩ ⟨rfl, ey⟩
            have hk : k < 2 := hk
            have hx8 : SqT K (cutH (D :: X) H8) ax rs := (show Same (cutH X H3) (cutH (D :: X) H8) from fun b o h => by
              obtain ⟨h1, h2⟩ := cut_at h
              refine cut_mk (s7 _ _ h1) fun hb => ?_
              rcases List.mem_cons.mp hb with rfl | hb
              · rw [hD] at h1
                cases h1
              · exact h2 hb).tup (by
              obtain ⟨a', xs', e', hs', hd'⟩ := hx.tuple
              cases e'
              rw [ers, ← DpAll.ints_eq hd']
              exact hs')
            have lr : rs.length ≤ 4 := by
              rw [ers, List.length_map]
              exact mSigns_row i r (List.mem_of_getElem? er) (by omega)
            refine ⟨rfl, _, rfl, ax, rs, rfl, .inl (cut_same.tup hx8), _, rfl, ?_, fun T2 nT2 => ?_⟩
            · rw [List.length_append]
              exact Nat.le_of_lt (small1000 (by simp; omega))
            have s8 : Same H8 (upd H8 T2 (.tup (rs ++ [y]))) := Same.new nT2
            have l2 : acc2.length ≤ 2 * j + 2 := by
              rw [hacc2.length, List.length_append, ← hacc.length, lacc, List.length_map, List.length_take]
              omega
            have nT2X : T2 ∉ D :: X := fun hb => by
              rcases List.mem_cons.mp hb with rfl | hb
              · rw [eacc2] at nT2
                cases nT2
              · exact ((hX.same s2).same s7).new nT2 hb
            refine ⟨acc2, s8 _ _ eacc2, small1000 (by omega), ?_, ?_, acc2 ++ [.ref T2], upd_same, ?_⟩
            · intro b o e
              rw [upd_ne (ne_of_none e hD)]
              exact s8 _ _ (s7 b o e)
            · rw [upd_ne (by rintro rfl; rw [eacc2] at eT7; cases eT7)]
              exact s8 _ _ eT7
            · rw [cut_in List.mem_cons_self]
              have new : ∀ z : Int, y = .int z → Dp K (cutH (D :: X) (upd H8 T2 (.tup (rs ++ [y])))) (.ref T2) (iTup' (r ++ [z])) := fun z ez => by
                refine .tup (.inl (.inl (cut_upd nT2X))) ?_
                rw [ers, ez, ← ints_snoc]
                exact .ints _
              have step : ∀ d, Dp K (cutH (D :: X) (upd H8 T2 (.tup (rs ++ [y])))) (.ref T2) (iTup' d) → (([r ++ [-1], r ++ [1]] : List (List Int)).take (k + 1)) = (([r ++ [-1], r ++ [1]] : List (List Int)).take k) ++ [d] →
                  DpAll K (cutH (D :: X) (upd H8 T2 (.tup (rs ++ [y])))) (acc2 ++ [.ref T2]) ((((mSigns i).take j).flatMap fun r => [r ++ [-1], r ++ [1]]).map iTup' ++ (([r ++ [-1], r ++ [1]] : List (List Int)).take (k + 1)).map iTup') := fun d h1 h2 => by
                rw [h2, List.map_append, ← List.append_assoc]
                exact (hacc2.same (same_cut s8)).append (.cons h1 .nil)
              rcases (show k = 0 ∨ k = 1 by omega) with rfl | rfl
              · cases ey
                exact step _ (new (-1) rfl) rfl
              · cases ey
                exact step _ (new 1 rfl) rfl
          · rintro H7 ⟨s7, _, acc2, eacc2, hacc2⟩
            refine ⟨s7, acc2, eacc2, ?_⟩
            rw [er2, List.flatMap_append, List.map_append]
            simpa using hacc2
      · rintro H4 ⟨s4, acc, eacc, hacc⟩
        rw [List.take_of_length_le (by rw [mSigns_len]; omega)] at hacc
        exact ⟨_, _, _, _, rfl, s2.trans s4, .lst (.inl (.inl (cut_mk eacc nDX))) (hacc.same cut_more)⟩
    · rintro σ H2 ⟨vr, f2, f3, f4, rfl, s2, hvr⟩
      exact ⟨_, rfl, q H2 _ s2 (by simpa using hvr)⟩
end
end Cs
set_option Elab.async false
set_option linter.all false
set_option maxRecDepth 100000
set_option maxHeartbeats 8000000
/-! tables: the checks -/
namespace Cs
open PySem PySem.Spec PyProof.Rows L2
/-! ### data that may be compared -/
def Flat (k : Nat) (d : PyData) : Prop := d.canLay0 = true ∧ d.depth ≤ k
theorem flat_all {k : Nat} : ∀ (ds : List PyData), (∀ d ∈ ds, Flat k d) → PyData.canLayAll0 ds = true ∧ PyData.depthAll ds ≤ k
  | [], _ => ⟨rfl, Nat.zero_le _⟩
  | d :: r, h => by
    obtain ⟨h1, h2⟩ := flat_all r fun e he => h e (List.mem_cons_of_mem _ he)
    obtain ⟨h3, h4⟩ := h d List.mem_cons_self
    refine ⟨by simp [PyData.canLayAll0, h1, h3], ?_⟩
    simp only [PyData.depthAll]
    omega
theorem flat_tup {k : Nat} {ds : List PyData} (h : ∀ d ∈ ds, Flat k d) : Flat (k + 1) (.tuple ds) := by
  obtain ⟨h1, h2⟩ := flat_all ds h
  refine ⟨by simpa [PyData.canLay0] using h1, ?_⟩
  simp only [PyData.depth]
  omega
theorem flat_list {k : Nat} {ds : List PyData} (h : ∀ d ∈ ds, Flat k d) : Flat (k + 1) (.list ds) := by
  obtain ⟨h1, h2⟩ := flat_all ds h
  refine ⟨by simpa [PyData.canLay0] using h1, ?_⟩
  simp only [PyData.depth]
  omega
theorem flat_int (i : Int) : Flat 0 (.int i) := ⟨rfl, Nat.le_refl _⟩
theorem Flat.shaped {k : Nat} {d : PyData} (h : Flat k d) (hk : k ≤ 64) : SeqAt.shaped d = true := by
  unfold SeqAt.shaped
  rw [h.1, decide_eq_true (Nat.le_trans h.2 hk)]
  rfl
theorem flat_str {z : Str} (h : NameOk z) : Flat 0 (.str z) := ⟨h.2.2.2, Nat.le_refl _⟩
/-! ### the data of a table -/
def dHeads (hs : List Str) : PyData := .tuple (hs.map .str)
def dAim (a : List (Int × Int)) : PyData := .tuple (a.map dSt)
def dLine (l : Str × List (Int × Int)) : PyData := .tuple [.str l.1, dAim l.2]
def dLines (ls : List (Str × List (Int × Int))) : PyData := .tuple (ls.map dLine)
/-- a stretch that is taken -/
def StOk (p : Int × Int) : Prop := -10000 ≤ p.1 ∧ p.1 ≤ p.2 ∧ p.2 ≤ 10000
structure HeadsOk (hs : List Str) : Prop where
  lo : 1 ≤ hs.length
  hi : hs.length ≤ 4
  nm : ∀ z ∈ hs, NameOk z
  nd : hs.Nodup
structure LinesOk (n : Nat) (ls : List (Str × List (Int × Int))) : Prop where
  lo : 1 ≤ ls.length
  hi : ls.length ≤ 8
  nm : ∀ l ∈ ls, NameOk l.1
  nd : (ls.map Prod.fst).Nodup
  wd : ∀ l ∈ ls, l.2.length = n
  st : ∀ l ∈ ls, ∀ p ∈ l.2, StOk p
theorem flat_st (p : Int × Int) : Flat 1 (dSt p) := flat_tup fun d hd => by
  rcases List.mem_cons.mp hd with rfl | hd
  · exact flat_int _
  · rcases List.mem_singleton.mp hd with rfl
    exact flat_int _
theorem flat_aim (a : List (Int × Int)) : Flat 2 (dAim a) := flat_tup fun d hd => by
  obtain ⟨p, _, rfl⟩ := List.mem_map.mp hd
  exact flat_st p
theorem Flat.mono {k l : Nat} {d : PyData} (h : Flat k d) (hk : k ≤ l) : Flat l d := ⟨h.1, Nat.le_trans h.2 hk⟩
theorem flat_heads {hs : List Str} (h : ∀ z ∈ hs, NameOk z) : Flat 1 (dHeads hs) := flat_tup fun d hd => by
  obtain ⟨z, hz, rfl⟩ := List.mem_map.mp hd
  exact flat_str (h z hz)
theorem flat_lines {ls : List (Str × List (Int × Int))} (h : ∀ l ∈ ls, NameOk l.1) : Flat 4 (dLines ls) := flat_tup fun d hd => by
  obtain ⟨l, hl, rfl⟩ := List.mem_map.mp hd
  refine flat_tup fun d hd => ?_
  rcases List.mem_cons.mp hd with rfl | hd
  · exact (flat_str (h l hl)).mono (by decide)
  · rcases List.mem_singleton.mp hd with rfl
    exact flat_aim _
theorem eqv_nil {d : PyData} {ds : List PyData} : PyData.eqv (.tuple (d :: ds)) (.tuple []) = false := by
  simp [PyData.eqv, PyData.eqvAll]
theorem dp_strs {K : PySem.W.Frag} {H : Hp} : ∀ {xs : List V} {hs : List Str}, DpAll K H xs (hs.map .str) → xs = hs.map V.str
  | _, [], h => by
    cases h
    rfl
  | _, z :: r, h => by
    cases h with
    | cons h1 h2 =>
      cases h1
      rw [dp_strs h2]
      rfl
theorem inV_strs {z : Str} {hs : List Str} : inV (.str z) (hs.map V.str) = decide (z ∈ hs) := by
  unfold inV
  induction hs with
  | nil => rfl
  | cons a r ih =>
    rw [List.map_cons, List.any_cons, ih]
    have e : eqV (.str a) (.str z) = decide (a = z) := by
      show (a == z) = _
      by_cases h : a = z
      · subst h
        simp
      · simp [h]
    rw [e]
    by_cases h : a = z
    · subst h
      simp
    · have h' : ¬ z = a := fun q => h q.symm
      simp [h, h']
theorem flat_strs (hs : List Str) : (hs.map V.str).all flatV = true := by
  rw [List.all_eq_true]
  intro x hx
  obtain ⟨z, _, rfl⟩ := List.mem_map.mp hx
  rfl
theorem cut_take (xs : List V) {i : Nat} (h : i ≤ xs.length) : cutV xs none (some (i : Int)) = xs.take i := by
  unfold cutV
  rw [HT.sIx_none, HT.sIx_nat, List.drop_zero, Nat.min_eq_left h, Nat.sub_zero]
theorem nodup_take {α : Type} {hs : List α} {i : Nat} {z : α} (h : hs.Nodup) (e : hs[i]? = some z) : z ∉ hs.take i := fun hm => by
  obtain ⟨j, hj, e2⟩ := List.mem_iff_getElem.mp hm
  rw [List.length_take] at hj
  rw [List.getElem_take] at e2
  obtain ⟨hi, e3⟩ := List.getElem?_eq_some_iff.mp e
  have := (List.getElem_inj h).mp (e2.trans e3.symm)
  omega
section
variable {P : Program} {w : World} {K : PySem.W.Frag} {mg : Str → Option Value} {base : Heap}
abbrev sEnd : Stmt := topS 56
theorem scEnd : FnScope ["value"] ["value"] (defScope sEnd) := ⟨rfl, rfl, rfl, by decide +kernel, rfl, by decide +kernel, by decide +kernel⟩
def spEnd (K : PySem.W.Frag) : Sp := fun vs H Q _ => ∃ (v : V) (p : Int × Int), vs = [v] ∧ Dp K H v (dSt p) ∧ StOk p ∧ ∀ H', Same H H' → Q (.bl true) H'
theorem c_end (D : DefAt K mg "is_end_stretch" sEnd ["value"]) (ME : GI mg "MOST_END" 10000) (St : Cal P w K mg base 3 "is_stretch" ["value", "least", "greatest"] (spStretch K)) : Cal P w K mg base 4 "is_end_stretch" ["value"] (spEnd K) := by
  refine D.cal fun f fd F => ?_
  refine F.ok scEnd (fun vs H Q E h => ?_) (fun cdv A outer s H vs Q E hr h => ?_)
  · obtain ⟨v, p, rfl, _⟩ := h
    rfl
  · obtain ⟨v, p, rfl, hv, ⟨h1, h2, h3⟩, q⟩ := h
    refine ⟨_, pss_one (ps_ret (pe_cal St hr (pa_cons (pv 0) (pa_cons (pe_op op_sub pe_int (pe_gi ME)) (pa_cons (pe_gi ME) pa_nil))))), ?_⟩
    exact ⟨_, rfl, _, _, rfl, rfl, v, p, _, _, rfl, hv, by omega, h2, h3, q⟩
abbrev sCols : Stmt := topS 57
abbrev nCols : List Str := ["value", "index", "name"]
theorem scCols : FnScope nCols ["value"] (defScope sCols) := ⟨rfl, rfl, rfl, by decide +kernel, rfl, by decide +kernel, by decide +kernel⟩
def spCols (K : PySem.W.Frag) : Sp := fun vs H Q _ => ∃ (X : List Addr) (v : V) (hs : List Str), vs = [v] ∧ Xin X H ∧ Dp K (cutH X H) v (dHeads hs) ∧ HeadsOk hs ∧ ∀ H', Same H H' → Q .non H'
theorem c_cols (D : DefAt K mg "check_columns" sCols ["value"]) (T : Bn mg) (MC : GI mg "MOST_COLUMNS" 4) (Nm : Cal P w K mg base 1 "is_name" ["value"] spName) : Cal P w K mg base 2 "check_columns" ["value"] (spCols K) := by
  refine D.cal fun f fd F => ?_
  refine F.ok scCols (fun vs H Q E h => ?_) (fun cdv A outer s H vs Q E hr h => ?_)
  · obtain ⟨X, v, hs, rfl, _⟩ := h
    rfl
  · obtain ⟨X, v, hs, rfl, hX, hv, ok, q⟩ := h
    refine ⟨_, pss_cons (ps_if (pw_or (pt_not (pt_val (pe_callB call_isi (by rfl) T.isi (by decide +kernel) (pa_cons (pv 0) (pa_cons (pe_bltn (v := .ty "tuple") (by rfl) T.tup (by decide +kernel) rfl) pa_nil))))) (pw_or1 (pt_cmpR (op_eqK K hr.units) (pv 0) (pe_tup pa_nil) (nomark _)))).pt pss_never pss_nil)
      (pss_one (ps_for PassesOwn.never rfl (pi_enumT (by rfl) T.enum (pa_cons (pv 0) pa_nil)) (pg_tup rfl (pgs_cons (pg_name (i := 1) scCols.nd rfl (.inl rfl)) (pgs_cons (pg_name (i := 2) scCols.nd rfl (.inl rfl)) pgs_nil)))
        (pss_one (ps_if (pw_or (pt_cmpR op_eq (pv 1) (pe_gi MC) (nomark _)) (pw_or (pt_not (pt_val (pe_cal Nm hr (pa_cons (pv 2) pa_nil)))) (pw_or1 (pt_cmpR op_in_seq (pv 2) (pe_slice sl_tupA (pv 0) po_none (po_some (pv 1))) (by rfl))))).pt pss_never pss_nil)))), ?_⟩
    obtain ⟨a, xs, rfl, hs', hd⟩ := hv.tuple
    have ex := dp_strs hd
    have hs0 := cut_same.tup hs'
    have lx : xs.length = hs.length := by rw [ex, List.length_map]
    have hlo := ok.lo
    have hhi := ok.hi
    refine ⟨_, rfl, _, _, _, _, true, rfl, .ty "tuple", tyx_tup hs0, kit_ty (by decide +kernel), true, rfl, iteF ⟨_, rfl, (by show 0 ≤ sizeLine; decide), fun t nt => ⟨dHeads hs, .tuple [], (hv.same cut_same).same (Same.new nt), .tup (.inl (.inl upd_same)) .nil, (flat_heads ok.nm).shaped (by decide), rfl, false, ?_, iteF ?_⟩⟩⟩
    · match hs, hlo with
      | z :: r, _ =>
        rw [show dHeads (z :: r) = .tuple (.str z :: r.map .str) from rfl, eqv_nil]
    have s1 : Same H (upd H t (.tup [])) := Same.new nt
    generalize (upd H t (.tup [])) = H1 at s1
    refine ⟨_, rfl, a, xs, rfl, s1.tup hs0, ?_⟩
    refine for_it walk_enumT (fun i σ H2 => ∃ f1 f2, σ = [some (.ref a), f1, f2] ∧ Same H H2) ⟨none, none, rfl, s1⟩ (fun i σ H2 _ ⟨_, _, _, s2⟩ => s2.tup hs0) ?_ ?_
    · rintro i x σ H2 H3 hi ⟨f1, f2, rfl, s2⟩ ⟨T2, x, y, rfl, nT, rfl, ex2, ey⟩
      cases ex2
      have ey : (xs[i]? : Option V) = some y := ey
      rw [ex, List.getElem?_map] at ey
      cases er : hs[i]? with
      | none =>
        rw [er] at ey
        cases ey
      | some z =>
        rw [er] at ey
        cases ey
        have s3 : Same H2 (upd H2 T2 (.tup [.int (i : Nat), .str z])) := Same.new nT
        have hi4 : i < hs.length := by omega
        refine g_pair ?_
        refine ⟨_, rfl, rfl, false, ?_, iteF ⟨_, rfl, z, rfl, ok.nm z (List.mem_of_getElem? er), fun H4 s4 => ⟨true, rfl, iteF ⟨_, rfl, _, rfl, _, rfl, _, rfl, a, xs, rfl, (s2.trans (s3.trans s4)).tup hs0, fun hw => ?_, fun _ p np => ⟨p, xs.take i, rfl, ?_⟩⟩⟩⟩⟩
        · exact congrArg V.bl (decide_eq_false fun e => by have := V.int.inj e; omega)
        · exfalso
          have h2 := hw.2
          rw [HT.sIx_nat] at h2
          omega
        · have hf : (xs.take i).all flatV = true := by
            rw [ex, ← List.map_take]
            exact flat_strs _
          refine ⟨.inr (.inl (.inl (by rw [upd_same, cut_take _ (by omega)]))), rfl, hf, false, ?_, iteF ⟨_, _, rfl, s2.trans (s3.trans (s4.trans (Same.new np)))⟩⟩
          show V.bl (inV (V.str z) (xs.take i)) = _
          rw [ex, ← List.map_take, inV_strs, decide_eq_false (nodup_take ok.nd er)]
    · rintro σ H2 ⟨f1, f2, rfl, s2⟩
      exact q H2 s2
abbrev sRow : Stmt := topS 58
abbrev nRow : List Str := ["value", "many", "names", "each"]
theorem scRow : FnScope nRow ["value", "many", "names"] (defScope sRow) := ⟨rfl, rfl, rfl, by decide +kernel, rfl, by decide +kernel, by decide +kernel⟩
def spRow (K : PySem.W.Frag) : Sp := fun vs H Q _ => ∃ (X : List Addr) (v vn : V) (l : Str × List (Int × Int)) (ns : List Str), vs = [v, .int (l.2.length : Nat), vn] ∧ Xin X H ∧ Dp K (cutH X H) v (dLine l) ∧ Dp K (cutH X H) vn (.list (ns.map .str)) ∧ NameOk l.1 ∧ l.1 ∉ ns ∧ l.2.length ≤ 1000 ∧ (∀ p ∈ l.2, StOk p) ∧
  ∀ H', Same H H' → Q (.bl true) H'
theorem sts_at {H : Hp} {xs : List V} {ps : List (Int × Int)} {i : Nat} {x : V} (h : DpAll K H xs (ps.map dSt)) (e : xs[i]? = some x) : ∃ p, ps[i]? = some p ∧ Dp K H x (dSt p) := by
  obtain ⟨d, e1, e2⟩ := h.at e
  rw [List.getElem?_map] at e1
  cases e3 : ps[i]? with
  | none =>
    rw [e3] at e1
    cases e1
  | some q =>
    rw [e3] at e1
    cases e1
    exact ⟨q, rfl, e2⟩
theorem sts_get {H : Hp} {xs : List V} {ps : List (Int × Int)} {i : Nat} {p : Int × Int} (h : DpAll K H xs (ps.map dSt)) (e : ps[i]? = some p) : ∃ x, xs[i]? = some x ∧ Dp K H x (dSt p) :=
  h.get (i := i) (d := dSt p) (by rw [List.getElem?_map, e]; rfl)
theorem line_of {H : Hp} {v : V} {l : Str × List (Int × Int)} (h : Dp K H v (dLine l)) : ∃ a b, v = .ref a ∧ SqT K H a [.str l.1, b] ∧ Dp K H b (dAim l.2) := by
  obtain ⟨a, xs, rfl, hs, ha⟩ := h.tuple
  cases ha with
  | cons h1 h2 =>
    cases h1
    cases h2 with
    | cons h3 h4 =>
      cases h4
      exact ⟨a, _, rfl, hs, h3⟩
theorem c_row (D : DefAt K mg "is_row" sRow ["value", "many", "names"]) (T : Bn mg) (To : Cal P w K mg base 1 "is_tuple_of" ["value", "many"] (spTupOf K)) (Nm : Cal P w K mg base 1 "is_name" ["value"] spName) (En : Cal P w K mg base 4 "is_end_stretch" ["value"] (spEnd K)) :
    Cal P w K mg base 5 "is_row" ["value", "many", "names"] (spRow K) := by
  refine D.cal fun f fd F => ?_
  refine F.ok scRow (fun vs H Q E h => ?_) (fun cdv A outer s H vs Q E hr h => ?_)
  · obtain ⟨X, v, vn, l, ns, rfl, _⟩ := h
    rfl
  · obtain ⟨X, v, vn, l, ns, rfl, hX, hv, hn, nm, nin, hl, hst, q⟩ := h
    refine ⟨_, pss_cons (ps_if (pw_or (pt_not (pt_val (pe_cal To hr (pa_cons (pv 0) (pa_cons pe_int pa_nil))))) (pw_or (pt_not (pt_val (pe_cal Nm hr (pa_cons (pe_ix (ix_tupK K) (pv 0) pe_int (fun _ _ => rfl)) pa_nil)))) (pw_or1 (pt_cmpR op_in_seq (pe_ix (ix_tupK K) (pv 0) pe_int (fun _ _ => rfl)) (pv 2) (by rfl))))).pt pss_never pss_nil)
      (pss_one (ps_ret (pe_and (pe_cal To hr (pa_cons (pe_ix (ix_tupK K) (pv 0) pe_int (fun _ _ => rfl)) (pa_cons (pv 1) pa_nil))) (pe_one (pe_callB (cr_all rfl) (by rfl) T.all (by decide +kernel) (pa_cons
        (pe_lc (own := [("each", 3)]) (g := gName 3) (tt := tYes) rfl scRow.nd (pi_tup (pe_ix (ix_tupK K) (pv 0) pe_int (fun _ _ => rfl))) (blkOk_by (own := [("each", 3)]) (N := nRow) (sc := defScope sRow) (by decide +kernel)) (fun _ _ _ _ _ => pg_name (i := 3) scRow.nd rfl (.inl rfl)) (fun _ _ _ _ _ => pts_nil)
          (fun _ _ _ _ _ => pe_cal En hr (pa_cons (pv 3) pa_nil))) pa_nil)))))), ?_⟩
    obtain ⟨a, b, rfl, hs, hb⟩ := line_of hv
    obtain ⟨ab, bs, rfl, hsb, hdb⟩ := hb.tuple
    obtain ⟨an, xn, rfl, hsn, hdn⟩ := hn.list
    have en := dp_strs hdn
    subst en
    have hs0 := cut_same.tup hs
    have hsb0 := cut_same.tup hsb
    have lb : bs.length = l.2.length := by rw [hdb.length, List.length_map]
    refine ⟨_, rfl, a, _, 2, rfl, hs0, rfl, true, rfl, iteF ⟨_, rfl, a, _, _, _, rfl, rfl, hs0, atI_nat (j := 0) rfl, l.1, rfl, nm, fun H2 s2 => ⟨true, rfl, iteF ?_⟩⟩⟩
    refine ⟨_, rfl, a, _, _, _, rfl, rfl, s2.tup hs0, atI_nat (j := 0) rfl, _, rfl, an, _, rfl, .inl (s2.seq (cut_same.seq hsn)), rfl, flat_strs _, false, ?_, iteF ?_⟩
    · show V.bl (inV (V.str l.1) (ns.map V.str)) = _
      rw [inV_strs, decide_eq_false nin]
    refine ⟨_, rfl, a, _, _, _, rfl, rfl, s2.tup hs0, atI_nat (j := 1) rfl, _, rfl, ab, bs, _, rfl, s2.tup hsb0, by rw [lb], true, rfl, iteT ⟨_, rfl, a, _, _, _, rfl, rfl, s2.tup hs0, atI_nat (j := 1) rfl, ab, rfl, ⟨_, s2.tup hsb0⟩, fun D hD => ?_⟩⟩
    refine lc_map (K := K) walk_tup [] (List.replicate l.2.length (.bool true)) Xin.nil hD (by rw [List.length_replicate, lb]) (by omega) (fun H3 s3 => (s2.trans s3).tup hsb0) ?_ fun H3 s3 ho => ?_
    · rintro i x H3 H4 d Q2 hd2 s3 sc hX2 ⟨rfl, ex⟩ k
      obtain ⟨hi, rfl⟩ := rep_at hd2
      obtain ⟨p, ep, hp⟩ := sts_at hdb ex
      refine ⟨rfl, _, rfl, x, p, rfl, hp.same (cut_same.trans (s2.trans s3)), hst p (List.mem_of_getElem? ep), fun H5 s5 => k _ _ s5 (.bl true)⟩
    · rw [cut_nil] at ho
      obtain ⟨aD, eD, hsD, hall⟩ := yes_of (n := l.2.length) ho
      cases eD
      refine ⟨_, _, rfl, hsD, ?_⟩
      rw [hall]
      exact q H3 (s2.trans s3)
abbrev sRowsC : Stmt := topS 59
abbrev nRowsC : List Str := ["many", "value", "index", "row", "each"]
theorem scRowsC : FnScope nRowsC ["many", "value"] (defScope sRowsC) := ⟨rfl, rfl, rfl, by decide +kernel, rfl, by decide +kernel, by decide +kernel⟩
def spRowsC (K : PySem.W.Frag) : Sp := fun vs H Q _ => ∃ (X : List Addr) (v : V) (n : Nat) (ls : List (Str × List (Int × Int))), vs = [.int n, v] ∧ Xin X H ∧ Dp K (cutH X H) v (dLines ls) ∧ LinesOk n ls ∧ n ≤ 1000 ∧ ∀ H', Same H H' → Q .non H'
theorem lines_at {H : Hp} {xs : List V} {ls : List (Str × List (Int × Int))} {i : Nat} {x : V} (h : DpAll K H xs (ls.map dLine)) (e : xs[i]? = some x) : ∃ p, ls[i]? = some p ∧ Dp K H x (dLine p) := by
  obtain ⟨d, e1, e2⟩ := h.at e
  rw [List.getElem?_map] at e1
  cases e3 : ls[i]? with
  | none =>
    rw [e3] at e1
    cases e1
  | some q =>
    rw [e3] at e1
    cases e1
    exact ⟨q, rfl, e2⟩
theorem c_rowsC (D : DefAt K mg "check_rows" sRowsC ["many", "value"]) (T : Bn mg) (MR : GI mg "MOST_ROWS" 8) (Ro : Cal P w K mg base 5 "is_row" ["value", "many", "names"] (spRow K)) : Cal P w K mg base 6 "check_rows" ["many", "value"] (spRowsC K) := by
  refine D.cal fun f fd F => ?_
  refine F.ok scRowsC (fun vs H Q E h => ?_) (fun cdv A outer s H vs Q E hr h => ?_)
  · obtain ⟨X, v, n, ls, rfl, _⟩ := h
    rfl
  · obtain ⟨X, v, n, ls, rfl, hX, hv, ok, hn, q⟩ := h
    refine ⟨_, pss_cons (ps_if (pw_or (pt_not (pt_val (pe_callB call_isi (by rfl) T.isi (by decide +kernel) (pa_cons (pv 1) (pa_cons (pe_bltn (v := .ty "tuple") (by rfl) T.tup (by decide +kernel) rfl) pa_nil))))) (pw_or1 (pt_cmpR (op_eqK K hr.units) (pv 1) (pe_tup pa_nil) (nomark _)))).pt pss_never pss_nil)
      (pss_one (ps_for PassesOwn.never rfl (pi_enumT (by rfl) T.enum (pa_cons (pv 1) pa_nil)) (pg_tup rfl (pgs_cons (pg_name (i := 2) scRowsC.nd rfl (.inl rfl)) (pgs_cons (pg_name (i := 3) scRowsC.nd rfl (.inl rfl)) pgs_nil)))
        (pss_one (ps_if (pw_or (pt_cmpR op_eq (pv 2) (pe_gi MR) (nomark _)) (pw_or1 (pt_not (pt_val (pe_cal Ro hr (pa_cons (pv 3) (pa_cons (pv 0) (pa_cons
          (pe_lc (own := [("each", 4)]) (g := gName 4) (tt := tYes) rfl scRowsC.nd (pi_tup (pe_slice sl_tupA (pv 1) po_none (po_some (pv 2)))) (blkOk_by (own := [("each", 4)]) (N := nRowsC) (sc := defScope sRowsC) (by decide +kernel)) (fun _ _ _ _ _ => pg_name (i := 4) scRowsC.nd rfl (.inl rfl)) (fun _ _ _ _ _ => pts_nil)
            (fun _ _ _ _ _ => pe_ix (ix_tupK K) (pv 4) pe_int (fun _ _ => rfl))) pa_nil)))))))).pt pss_never pss_nil)))), ?_⟩
    obtain ⟨a, xs, rfl, hs', hd⟩ := hv.tuple
    have hs0 := cut_same.tup hs'
    have lx : xs.length = ls.length := by rw [hd.length, List.length_map]
    have hlo := ok.lo
    have hhi := ok.hi
    refine ⟨_, rfl, _, _, _, _, true, rfl, .ty "tuple", tyx_tup hs0, kit_ty (by decide +kernel), true, rfl, iteF ⟨_, rfl, (by show 0 ≤ sizeLine; decide), fun t nt => ⟨dLines ls, .tuple [], (hv.same cut_same).same (Same.new nt), .tup (.inl (.inl upd_same)) .nil, (flat_lines ok.nm).shaped (by decide), rfl, false, ?_, iteF ?_⟩⟩⟩
    · match ls, hlo with
      | z :: r, _ =>
        rw [show dLines (z :: r) = .tuple (dLine z :: r.map dLine) from rfl, eqv_nil]
    have s1 : Same H (upd H t (.tup [])) := Same.new nt
    generalize (upd H t (.tup [])) = H1 at s1
    refine ⟨_, rfl, a, xs, rfl, s1.tup hs0, ?_⟩
    refine for_it walk_enumT (fun i σ H2 => ∃ f1 f2, σ = [some (.int n), some (.ref a), f1, f2, none] ∧ Same H H2) ⟨none, none, rfl, s1⟩ (fun i σ H2 _ ⟨_, _, _, s2⟩ => s2.tup hs0) ?_ ?_
    · rintro i x σ H2 H3 hi ⟨f1, f2, rfl, s2⟩ ⟨T2, x, y, rfl, nT, rfl, ex2, ey⟩
      cases ex2
      obtain ⟨l, el, hl⟩ := lines_at hd ey
      have s3 : Same H2 (upd H2 T2 (.tup [.int (i : Nat), y])) := Same.new nT
      have hi4 : i < ls.length := by omega
      refine g_pair ?_
      have lwd := ok.wd l (List.mem_of_getElem? el)
      refine ⟨_, rfl, rfl, false, ?_, iteF ⟨_, rfl, _, rfl, _, rfl, _, rfl, _, rfl, a, xs, rfl, (s2.trans s3).tup hs0, fun hw => ?_, fun _ p np => ⟨p, rfl, ⟨_, .inl (.inl upd_same)⟩, fun D hD => ?_⟩⟩⟩
      · exact congrArg V.bl (decide_eq_false fun e => by have := V.int.inj e; omega)
      · exfalso
        have h2 := hw.2
        rw [HT.sIx_nat] at h2
        omega
      rw [cut_take _ (by omega)] at hD ⊢
      have s4 := Same.new (o := .tup (xs.take i)) np
      have ep : SqT K (upd (upd H2 T2 (.tup [.int (i : Nat), y])) p (.tup (xs.take i))) p (xs.take i) := .inl (.inl upd_same)
      generalize (upd (upd H2 T2 (.tup [.int (i : Nat), y])) p (.tup (xs.take i))) = H4 at s4 ep hD ⊢
      have s24 := s3.trans s4
      have lt : (xs.take i).length = i := by rw [List.length_take]; omega
      refine lc_map (K := K) walk_tup X (((ls.take i).map Prod.fst).map .str) ((hX.same s2).same s24) hD (by rw [List.length_map, List.length_map, List.length_take, List.length_take]; omega) (by omega) (fun H5 s5 => s5.tup ep) ?_ fun H5 s5 ho => ?_
      · rintro j x H5 H6 d Q2 hd2 s5 sc hX2 ⟨rfl, ex⟩ k
        have hj : j < i := by
          have := (List.getElem?_eq_some_iff.mp ex).1
          omega
        rw [List.getElem?_take, if_pos hj] at ex
        obtain ⟨l2, el2, hl2⟩ := lines_at hd ex
        have e : d = .str l2.1 := by
          rw [List.getElem?_map, List.getElem?_map, List.getElem?_take, if_pos hj, el2] at hd2
          exact (Option.some.inj hd2).symm
        subst e
        obtain ⟨a2, b2, rfl, hs2, _⟩ := line_of (hl2.same (cut_same.trans (s2.trans (s24.trans s5))))
        exact ⟨rfl, _, rfl, a2, _, _, _, rfl, rfl, hs2, atI_nat (j := 0) rfl, k _ _ (Same.refl _) (.str _)⟩
      · have s05 := s2.trans (s24.trans s5)
        refine ⟨X, y, _, l, (ls.take i).map Prod.fst, by rw [lwd]; rfl, hX.same s05, hl.same (same_cut s05), ho, ok.nm l (List.mem_of_getElem? el), ?_, by omega, ok.st l (List.mem_of_getElem? el), fun H6 s6 => ⟨true, rfl, iteF ⟨_, _, rfl, s05.trans s6⟩⟩⟩
        rw [List.map_take]
        exact nodup_take ok.nd (by rw [List.getElem?_map, el]; rfl)
    · rintro σ H2 ⟨f1, f2, rfl, s2⟩
      exact q H2 s2
end
end Cs
set_option Elab.async false
set_option linter.all false
set_option maxRecDepth 100000
set_option maxHeartbeats 8000000
/-! the class Table; the checks of a question -/
namespace Cs
open PySem PySem.Spec PyProof.Rows L2
/-- the class Table -/
structure TabC (K : PySem.W.Frag) (C : Addr) : Prop where
  cl : Cls K C
  nH : NoAttr K C "heads"
  nL : NoAttr K C "lines"
  ha : PySem.W.findIn K (.ref C) "__class__" = some (some (.builtin "object.__class__"))
  hn : PySem.W.specialIn K (.builtin "object.__class__") "__get__" = some (some (.builtin "getset_descriptor.__get__"))
  htk : PySem.W.takesIn K (.builtin "object.__class__") = some true
  hm : PySem.W.mroIn K C (.type "object") = some true
  one : PySem.W.kitOne K (.ref C) (.ref C) = some true
def tbF (h l : V) : List (Str × V) := [("heads", h), ("lines", l)]
theorem tbF_put (h l : V) : putF "lines" l (putF "heads" h []) = tbF h l := by
  have h1 : ¬ (("heads" : Str) = "lines") := by decide +kernel
  simp only [putF, if_neg h1, tbF]
def TabAt (K : PySem.W.Frag) (C : Addr) (X : List Addr) (H : Hp) (v : V) (hs : List Str) (ls : List (Str × List (Int × Int))) : Prop :=
  ∃ a dx h l, v = .ref a ∧ H a = some (.ins C dx (tbF h l)) ∧ Dp K (cutH X H) h (dHeads hs) ∧ Dp K (cutH X H) l (dLines ls)
theorem TabAt.same {K : PySem.W.Frag} {C : Addr} {X : List Addr} {H H' : Hp} {v : V} {hs : List Str} {ls : List (Str × List (Int × Int))} (h : TabAt K C X H v hs ls) (s : Same H H') : TabAt K C X H' v hs ls := by
  obtain ⟨a, dx, x, l, e, ha, hx, hl⟩ := h
  exact ⟨a, dx, x, l, e, s _ _ ha, hx.same (same_cut s), hl.same (same_cut s)⟩
/-- a property that only reads a field -/
structure PropAt (K : PySem.W.Frag) (C : Addr) (f q : Str) (st : Stmt) : Prop where
  ex : ∃ p g fd, Fun K f q st g fd ∧ Binds K fd ["self"] [] ∧ PropOf K C f p g
structure PCal (P : Program) (w : World) (K : PySem.W.Frag) (mg : Str → Option Value) (base : Heap) (k : Nat) (C : Addr) (f fld : Str) : Prop where
  ex : ∃ p g fd, PropOf K C f p g ∧ FnOk P w K mg base CX0 k g fd ["self"] (getSp C fld) ∧ Binds K fd ["self"] []
section
variable {X : Cx} {k j : Nat} {C : Addr} {f fld : Str} {pos : Pos} {e : Expr} {ta : TE}
theorem pe_propC (D : PCal X.prog X.w X.K X.mg X.base k C f fld) (cl : Cls X.K C) (hr : Room j X.A) (he : PE X e ta) (hkj : k + 1 ≤ j := by decide) (hab : attributeBase e f X.env (eval e X.env) = eval e X.env := by rfl) : PE X (.Attribute e f pos) (tProp C (getSp C fld) [] E0 ta) := by
  obtain ⟨p, g, fd, hp, F, b⟩ := D.ex
  exact pe_prop he cl hp F (hr.mono hkj) b .nil (fun _ _ _ _ _ _ _ h => h.elim) hab
end
section
variable {P : Program} {w : World} {K : PySem.W.Frag} {mg : Str → Option Value} {base : Heap}
abbrev sTbInit : Stmt := inClass (topS 62) 0
abbrev sTbCols : Stmt := inClass (topS 62) 2
abbrev sTbRows : Stmt := inClass (topS 62) 3
theorem scTbInit : FnScope ["self", "columns", "rows"] ["self", "columns", "rows"] (defScope sTbInit) := ⟨rfl, rfl, rfl, by decide +kernel, rfl, by decide +kernel, by decide +kernel⟩
theorem scTbCols : FnScope ["self"] ["self"] (defScope sTbCols) := ⟨rfl, rfl, rfl, by decide +kernel, rfl, by decide +kernel, by decide +kernel⟩
theorem scTbRows : FnScope ["self"] ["self"] (defScope sTbRows) := ⟨rfl, rfl, rfl, by decide +kernel, rfl, by decide +kernel, by decide +kernel⟩
theorem c_tbcols {C : Addr} (D : PropAt K C "columns" "Table.columns" sTbCols) (T : TabC K C) : PCal P w K mg base 1 C "columns" "heads" := by
  obtain ⟨p, g, fd, F, b, hp⟩ := D.ex
  refine ⟨p, g, fd, hp, ?_, b⟩
  refine F.ok scTbCols (fun vs H Q E h => ?_) (fun cdv A outer s H vs Q E hr h => ?_)
  · obtain ⟨a, dx, fs, v, rfl, _⟩ := h
    rfl
  · obtain ⟨a, dx, fs, v, rfl, ea, l, q⟩ := h
    exact ⟨_, pss_one (ps_ret (pe_fldK K (pv 0))), _, rfl, a, C, dx, fs, v, rfl, ea, T.cl, T.nH, l, q⟩
theorem c_tbrows {C : Addr} (D : PropAt K C "rows" "Table.rows" sTbRows) (T : TabC K C) : PCal P w K mg base 1 C "rows" "lines" := by
  obtain ⟨p, g, fd, F, b, hp⟩ := D.ex
  refine ⟨p, g, fd, hp, ?_, b⟩
  refine F.ok scTbRows (fun vs H Q E h => ?_) (fun cdv A outer s H vs Q E hr h => ?_)
  · obtain ⟨a, dx, fs, v, rfl, _⟩ := h
    rfl
  · obtain ⟨a, dx, fs, v, rfl, ea, l, q⟩ := h
    exact ⟨_, pss_one (ps_ret (pe_fldK K (pv 0))), _, rfl, a, C, dx, fs, v, rfl, ea, T.cl, T.nL, l, q⟩
def spTbInit (K : PySem.W.Frag) (C : Addr) : Sp := fun vs H Q _ => ∃ (X : List Addr) (p dx : Addr) (vh vl : V) (hs : List Str) (ls : List (Str × List (Int × Int))), vs = [.ref p, vh, vl] ∧ H p = some (.ins C dx []) ∧ Xin X H ∧ Dp K (cutH X H) vh (dHeads hs) ∧ Dp K (cutH X H) vl (dLines ls) ∧
  HeadsOk hs ∧ LinesOk hs.length ls ∧ ∀ H', H' p = some (.ins C dx (tbF vh vl)) → (∀ c o, H c = some o → c ≠ p → H' c = some o) → Q .non H'
theorem c_tbinit {C : Addr} (D : InitAt K mg C "Table" "Table.__init__" sTbInit ["self", "columns", "rows"]) (T : TabC K C) (B : Bn mg) (Cc : Cal P w K mg base 2 "check_columns" ["value"] (spCols K)) (Cr : Cal P w K mg base 6 "check_rows" ["many", "value"] (spRowsC K)) :
    ICal P w K mg base 7 C "Table" ["self", "columns", "rows"] (spTbInit K C) := by
  refine D.cal fun f fd F => ?_
  refine F.ok scTbInit (fun vs H Q E h => ?_) (fun cdv A outer s H vs Q E hr h => ?_)
  · obtain ⟨X, p, dx, vh, vl, hs, ls, rfl, _⟩ := h
    rfl
  · obtain ⟨X, p, dx, vh, vl, hs, ls, rfl, hp, hX, hh, hl, okh, okl, q⟩ := h
    refine ⟨_, pss_cons (ps_expr (pe_cal Cc hr (pa_cons (pv 1) pa_nil))) (pss_cons (ps_expr (pe_cal Cr hr (pa_cons (pe_callB call_len_seq (by rfl) B.len PySem.boot_len (pa_cons (pv 1) pa_nil)) (pa_cons (pv 2) pa_nil))))
      (pss_cons (ps_fld (pv 0) (pv 1) rfl) (pss_one (ps_fld (pv 0) (pv 2) rfl)))), ?_⟩
    obtain ⟨a, xs, rfl, hsx, hd⟩ := hh.tuple
    have lx : xs.length = hs.length := by rw [hd.length, List.length_map]
    have hhi := okh.hi
    refine ⟨_, rfl, X, _, hs, rfl, hX, hh, okh, fun H1 s1 => ⟨_, rfl, a, xs, rfl, .inr (s1.tup (cut_same.tup hsx)), _, rfl, X, _, hs.length, ls, by rw [lx]; rfl, hX.same s1, hl.same (same_cut s1), okl, by omega, fun H2 s2 => ?_⟩⟩
    have s12 := s1.trans s2
    refine ⟨_, rfl, _, rfl, p, C, dx, [], rfl, s12 _ _ hp, T.cl, T.nH, (by show 0 < 1000; decide), _, rfl, _, rfl, p, C, dx, _, rfl, upd_same, T.cl, T.nL, (by show 1 < 1000; decide), ?_⟩
    refine q _ ?_ fun c o e n => ?_
    · rw [upd_same, tbF_put]
    · rw [upd_ne n, upd_ne n]
      exact s12 _ _ e
/-! ### checks -/
abbrev sCkTab : Stmt := topS 64
theorem scCkTab : FnScope ["value"] ["value"] (defScope sCkTab) := ⟨rfl, rfl, rfl, by decide +kernel, rfl, by decide +kernel, by decide +kernel⟩
def spCkTab (C : Addr) : Sp := fun vs H Q _ => ∃ (a dx : Addr) (fs : List (Str × V)), vs = [.ref a] ∧ H a = some (.ins C dx fs) ∧ Q .non H
theorem c_cktab {C : Addr} (D : DefAt K mg "check_table" sCkTab ["value"]) (T : TabC K C) (B : Bn mg) (g : mg "Table" = some (.ref C)) : Cal P w K mg base 1 "check_table" ["value"] (spCkTab C) := by
  refine D.cal fun f fd F => ?_
  refine F.ok scCkTab (fun vs H Q E h => ?_) (fun cdv A outer s H vs Q E hr h => ?_)
  · obtain ⟨a, dx, fs, rfl, _⟩ := h
    rfl
  · obtain ⟨a, dx, fs, rfl, ea, q⟩ := h
    refine ⟨_, pss_one (ps_if (pt_not (pt_val (pe_callB call_isi (by rfl) B.isi (by decide +kernel) (pa_cons (pv 0) (pa_cons (pe_glob (v := .ref C) (by rfl) g rfl) pa_nil))))) pss_never pss_nil), ?_⟩
    exact ⟨_, rfl, _, _, _, _, true, rfl, .own C, .base (.ins ea T.cl T.ha T.hn T.htk T.hm), T.one, true, rfl, iteF q⟩
abbrev sCkMix : Stmt := topS 68
theorem scCkMix : FnScope ["table", "value"] ["table", "value"] (defScope sCkMix) := ⟨rfl, rfl, rfl, by decide +kernel, rfl, by decide +kernel, by decide +kernel⟩
def spCkMix (K : PySem.W.Frag) (C : Addr) : Sp := fun vs H Q _ => ∃ (X : List Addr) (t v : V) (hs : List Str) (ls : List (Str × List (Int × Int))) (ps : List Rat), vs = [t, v] ∧ Xin X H ∧ TabAt K C X H t hs ls ∧ Dp K (cutH X H) v (fTup ps) ∧ ps.length = ls.length ∧ ps.length ≤ 4 ∧ SzAll 420 ps ∧ (∀ q ∈ ps, 0 ≤ q) ∧ mTotal ps = 1 ∧
  ∀ H', Same H H' → Q .non H'
theorem c_ckmix {C : Addr} (D : DefAt K mg "check_mix" sCkMix ["table", "value"]) (T : TabC K C) (B : Bn mg) (Ro : PCal P w K mg base 1 C "rows" "lines") (Mx : Cal P w K mg base 5 "is_mix" ["value", "many"] (spMix K)) : Cal P w K mg base 6 "check_mix" ["table", "value"] (spCkMix K C) := by
  refine D.cal fun f fd F => ?_
  refine F.ok scCkMix (fun vs H Q E h => ?_) (fun cdv A outer s H vs Q E hr h => ?_)
  · obtain ⟨X, t, v, hs, ls, ps, rfl, _⟩ := h
    rfl
  · obtain ⟨X, t, v, hs, ls, ps, rfl, hX, ⟨a, dx, h, l, rfl, ea, hh, hl⟩, hv, lps, l4, hz, h0, h1, q⟩ := h
    refine ⟨_, pss_one (ps_if (pt_not (pt_val (pe_cal Mx hr (pa_cons (pv 1) (pa_cons (pe_callB call_len_seq (by rfl) B.len PySem.boot_len (pa_cons (pe_propC Ro T.cl hr (pv 0)) pa_nil)) pa_nil))))) pss_never pss_nil), ?_⟩
    obtain ⟨al, xs, rfl, hsl, hdl⟩ := hl.tuple
    have lx : xs.length = ps.length := by rw [hdl.length, List.length_map, lps]
    refine ⟨_, rfl, _, rfl, a, dx, _, rfl, ea, a, dx, _, _, rfl, ea, rfl, al, xs, rfl, .inr (cut_same.tup hsl), X, v, ps, by rw [lx]; rfl, hX, hv, l4, hz, h0, h1, fun H2 s2 => ⟨true, rfl, iteF (q H2 s2)⟩⟩
abbrev sCkTar : Stmt := topS 70
abbrev nCkTar : List Str := ["table", "value", "each"]
theorem scCkTar : FnScope nCkTar ["table", "value"] (defScope sCkTar) := ⟨rfl, rfl, rfl, by decide +kernel, rfl, by decide +kernel, by decide +kernel⟩
def spCkTar (K : PySem.W.Frag) (C : Addr) : Sp := fun vs H Q _ => ∃ (X : List Addr) (t v : V) (hs : List Str) (ls : List (Str × List (Int × Int))) (aim : List (Int × Int)), vs = [t, v] ∧ Xin X H ∧ TabAt K C X H t hs ls ∧ Dp K (cutH X H) v (dAim aim) ∧ aim.length = hs.length ∧ aim.length ≤ 1000 ∧ (∀ p ∈ aim, StOk p) ∧
  ∀ H', Same H H' → Q .non H'
theorem c_cktar {C : Addr} (D : DefAt K mg "check_target" sCkTar ["table", "value"]) (T : TabC K C) (B : Bn mg) (ME : GI mg "MOST_END" 10000) (Co : PCal P w K mg base 1 C "columns" "heads") (To : Cal P w K mg base 1 "is_tuple_of" ["value", "many"] (spTupOf K)) (St : Cal P w K mg base 3 "is_stretch" ["value", "least", "greatest"] (spStretch K)) :
    Cal P w K mg base 4 "check_target" ["table", "value"] (spCkTar K C) := by
  refine D.cal fun f fd F => ?_
  refine F.ok scCkTar (fun vs H Q E h => ?_) (fun cdv A outer s H vs Q E hr h => ?_)
  · obtain ⟨X, t, v, hs, ls, aim, rfl, _⟩ := h
    rfl
  · obtain ⟨X, t, v, hs, ls, aim, rfl, hX, ⟨a, dx, h, l, rfl, ea, hh, hl⟩, hv, la, l4, hst, q⟩ := h
    refine ⟨_, pss_cons (ps_if (pt_not (pt_val (pe_cal To hr (pa_cons (pv 1) (pa_cons (pe_callB call_len_seq (by rfl) B.len PySem.boot_len (pa_cons (pe_propC Co T.cl hr (pv 0)) pa_nil)) pa_nil))))) pss_never pss_nil)
      (pss_one (ps_if (pt_not (pt_val (pe_callB (cr_all rfl) (by rfl) B.all (by decide +kernel) (pa_cons
        (pe_lc (own := [("each", 2)]) (g := gName 2) (tt := tYes) rfl scCkTar.nd (pi_tup (pv 1)) (blkOk_by (own := [("each", 2)]) (N := nCkTar) (sc := defScope sCkTar) (by decide +kernel)) (fun _ _ _ _ _ => pg_name (i := 2) scCkTar.nd rfl (.inl rfl)) (fun _ _ _ _ _ => pts_nil)
          (fun _ _ _ _ _ => pe_cal St hr (pa_cons (pv 2) (pa_cons (pe_op op_sub pe_int (pe_gi ME)) (pa_cons (pe_gi ME) pa_nil))))) pa_nil)))) pss_never pss_nil)), ?_⟩
    obtain ⟨ah, xs, rfl, hsh, hdh⟩ := hh.tuple
    obtain ⟨av, ys, rfl, hsv, hdv⟩ := hv.tuple
    have lx : xs.length = hs.length := by rw [hdh.length, List.length_map]
    have ly : ys.length = aim.length := by rw [hdv.length, List.length_map]
    have hsv0 := cut_same.tup hsv
    refine ⟨_, rfl, _, rfl, a, dx, _, rfl, ea, a, dx, _, _, rfl, ea, rfl, ah, xs, rfl, .inr (cut_same.tup hsh), av, ys, _, rfl, hsv0, by omega, true, rfl, iteF ⟨_, rfl, av, rfl, ⟨_, hsv0⟩, fun D hD => ?_⟩⟩
    refine lc_map (K := K) walk_tup [] (List.replicate aim.length (.bool true)) Xin.nil hD (by rw [List.length_replicate, ly]) (by omega) (fun H3 s3 => s3.tup hsv0) ?_ fun H3 s3 ho => ?_
    · rintro i x H3 H4 d Q2 hd2 s3 sc hX2 ⟨rfl, ex⟩ k
      obtain ⟨hi, rfl⟩ := rep_at hd2
      obtain ⟨p, ep, hp⟩ := sts_at hdv ex
      obtain ⟨o1, o2, o3⟩ := hst p (List.mem_of_getElem? ep)
      refine ⟨rfl, _, rfl, _, _, rfl, rfl, x, p, _, _, rfl, hp.same (cut_same.trans s3), by omega, o2, o3, fun H5 s5 => k _ _ s5 (.bl true)⟩
    · rw [cut_nil] at ho
      obtain ⟨aD, eD, hsD, hall⟩ := yes_of (n := aim.length) ho
      cases eD
      exact ⟨_, _, rfl, hsD, true, by rw [hall], iteF (q H3 s3)⟩
abbrev sCkPri : Stmt := topS 71
abbrev nCkPri : List Str := ["table", "value", "each"]
theorem scCkPri : FnScope nCkPri ["table", "value"] (defScope sCkPri) := ⟨rfl, rfl, rfl, by decide +kernel, rfl, by decide +kernel, by decide +kernel⟩
def FeesOk (ns : List Int) : Prop := ∀ n ∈ ns, 0 ≤ n ∧ n ≤ 1000
def spCkPri (K : PySem.W.Frag) (C : Addr) : Sp := fun vs H Q _ => ∃ (X : List Addr) (t v : V) (hs : List Str) (ls : List (Str × List (Int × Int))) (ns : List Int), vs = [t, v] ∧ Xin X H ∧ TabAt K C X H t hs ls ∧ Dp K (cutH X H) v (iTup' ns) ∧ ns.length = ls.length ∧ ns.length ≤ 1000 ∧ FeesOk ns ∧
  ∀ H', Same H H' → Q .non H'
theorem c_ckpri {C : Addr} (D : DefAt K mg "check_prices" sCkPri ["table", "value"]) (T : TabC K C) (B : Bn mg) (MP : GI mg "MOST_PRICE" 1000) (Ro : PCal P w K mg base 1 C "rows" "lines") (To : Cal P w K mg base 1 "is_tuple_of" ["value", "many"] (spTupOf K)) (I : Cal P w K mg base 2 "is_integer" ["value", "least", "greatest"] spInteger) :
    Cal P w K mg base 3 "check_prices" ["table", "value"] (spCkPri K C) := by
  refine D.cal fun f fd F => ?_
  refine F.ok scCkPri (fun vs H Q E h => ?_) (fun cdv A outer s H vs Q E hr h => ?_)
  · obtain ⟨X, t, v, hs, ls, ns, rfl, _⟩ := h
    rfl
  · obtain ⟨X, t, v, hs, ls, ns, rfl, hX, ⟨a, dx, h, l, rfl, ea, hh, hl⟩, hv, la, l4, hst, q⟩ := h
    refine ⟨_, pss_cons (ps_if (pt_not (pt_val (pe_cal To hr (pa_cons (pv 1) (pa_cons (pe_callB call_len_seq (by rfl) B.len PySem.boot_len (pa_cons (pe_propC Ro T.cl hr (pv 0)) pa_nil)) pa_nil))))) pss_never pss_nil)
      (pss_one (ps_if (pt_not (pt_val (pe_callB (cr_all rfl) (by rfl) B.all (by decide +kernel) (pa_cons
        (pe_lc (own := [("each", 2)]) (g := gName 2) (tt := tYes) rfl scCkPri.nd (pi_tup (pv 1)) (blkOk_by (own := [("each", 2)]) (N := nCkPri) (sc := defScope sCkPri) (by decide +kernel)) (fun _ _ _ _ _ => pg_name (i := 2) scCkPri.nd rfl (.inl rfl)) (fun _ _ _ _ _ => pts_nil)
          (fun _ _ _ _ _ => pe_cal I hr (pa_cons (pv 2) (pa_cons pe_int (pa_cons (pe_gi MP) pa_nil))))) pa_nil)))) pss_never pss_nil)), ?_⟩
    obtain ⟨al, xs, rfl, hsl, hdl⟩ := hl.tuple
    obtain ⟨av, ys, rfl, hsv, hdv⟩ := hv.tuple
    have lx : xs.length = ls.length := by rw [hdl.length, List.length_map]
    have ly : ys.length = ns.length := by rw [hdv.length, List.length_map]
    have hsv0 := cut_same.tup hsv
    refine ⟨_, rfl, _, rfl, a, dx, _, rfl, ea, a, dx, _, _, rfl, ea, rfl, al, xs, rfl, .inr (cut_same.tup hsl), av, ys, _, rfl, hsv0, by omega, true, rfl, iteF ⟨_, rfl, av, rfl, ⟨_, hsv0⟩, fun D hD => ?_⟩⟩
    refine lc_map (K := K) walk_tup [] (List.replicate ns.length (.bool true)) Xin.nil hD (by rw [List.length_replicate, ly]) (by omega) (fun H3 s3 => s3.tup hsv0) ?_ fun H3 s3 ho => ?_
    · rintro i x H3 H4 d Q2 hd2 s3 sc hX2 ⟨rfl, ex⟩ k
      obtain ⟨hi, rfl⟩ := rep_at hd2
      obtain ⟨n, en, rfl⟩ := ints_at hdv ex
      obtain ⟨o1, o2⟩ := hst n (List.mem_of_getElem? en)
      exact ⟨rfl, _, rfl, n, _, _, rfl, o1, o2, k _ _ (Same.refl _) (.bl true)⟩
    · rw [cut_nil] at ho
      obtain ⟨aD, eD, hsD, hall⟩ := yes_of (n := ns.length) ho
      cases eD
      exact ⟨_, _, rfl, hsD, true, by rw [hall], iteF (q H3 s3)⟩
end
end Cs
set_option Elab.async false
set_option linter.all false
set_option maxRecDepth 100000
set_option maxHeartbeats 4000000
/-! tuple * 1 is the tuple itself -/
namespace Cs
open PySem PySem.Spec PyProof.Rows L2
theorem tuple_mul1 (l : Addr) (items : Array Value) (n : Nat) (dd : Option Addr) (sl : Array (Option Value)) (u : Tok) :
    Meets (Builtin.«tuple.__mul__» ⟨[.ref l, .int 1 u], []⟩) (fun _ R s => s.heap.get? l = some { cls := .type "tuple", dict := dd, data := .seq items n, slots := sl } ∧
      R (.ok (.ret (Value.ref l))) s) :=
  .of_wp fun prog w A R s h => by
    obtain ⟨hp, g, d, tk, os⟩ := s
    obtain ⟨hl, h⟩ := h
    have f1 := AutoSeq1.idx_int
    wp_walk using wpAny_loadPart' hl
    exact ⟨_, rfl, h⟩
/-- a tuple times an int from 1 on -/
def rRep1 (K : PySem.W.Frag) : R2 := fun x y H Q => ∃ l xs, x = .ref l ∧ y = .int 1 ∧ SqT K H l xs ∧ Q (.ref l) H
section
variable {X : Cx}
theorem op_rep1 : OpR X (binaryOp .Mult) (rRep1 X.K) := by
  intro pins s σ H x y v u Q I rx ry h
  obtain ⟨l, xs, rfl, rfl, hT, q⟩ := h
  cases rx
  obtain ⟨t, rfl⟩ := ry
  obtain ⟨its, r, ⟨⟨cls, dd, data, sl⟩, ho, hc, n, hd⟩, hs⟩ := I.tuple hT
  simp only at hc hd
  subst hc hd
  exact wpAny_binaryOp_repeat_ref (T := "tuple") (U := "int") (by decide) ⟨_, ho, rfl⟩ (fun s' => typeIs_int s' 1 t) noFill_tuple_mul F.fills_int_mul F.slot_int_rmul repeat_tuple F.slot_int_index.lookup
    (call_meets F.slot_int_rmul (typeIs_int s 1 t) F.entry_int_rmul (F.args_int_rmul_2 _ _) (int_rmul_tuple 1 t l its.toArray n dd sl)
      ⟨ho, rfl, ⟨_, ho, rfl⟩, call_meets F.slot_tuple_mul ⟨_, ho, rfl⟩ F.entry_tuple_mul (F.args_tuple_mul_2 _ _) (tuple_mul1 l its.toArray n dd sl t) ⟨ho, .ref l, H, I, rfl, q⟩⟩)
/-- x times k, k from 1 on, x one item -/
theorem op_repA : OpR X (binaryOp .Mult) (fun x y H Q => rRepT X.K x y H Q ∨ rRep1 X.K x y H Q) := op_repT.or op_rep1
end
/-- a tuple of one flat item, k times -/
theorem rep_flat {K : PySem.W.Frag} {H : Hp} {X : List Addr} {l : Addr} {v : V} {d : PyData} {k : Nat} {Q : VK} (hT : SqT K H l [v]) (hX : Xin X H) (hv : ∀ H', Dp K H' v d) (h1 : 1 ≤ k) (h2 : k ≤ 1000)
    (q : ∀ H' y, Same H H' → Dp K (cutH X H') y (.tuple (List.replicate k d)) → Q y H') : rRepT K (.ref l) (.int (k : Nat)) H Q ∨ rRep1 K (.ref l) (.int (k : Nat)) H Q := by
  have all : ∀ (H' : Hp) (n : Nat), DpAll K H' (List.replicate n v) (List.replicate n d) := fun H' n => by
    induction n with
    | zero => exact .nil
    | succ n ih => exact .cons (hv H') ih
  by_cases hk : k = 1
  · subst hk
    exact .inr ⟨l, [v], rfl, rfl, hT, q H _ (Same.refl _) (.tup (tup_cut hT hX) (all _ 1))⟩
  · refine .inl ⟨l, (k : Nat), [v], rfl, rfl, hT, by simp, by omega, by omega, by simp, fun p np => ?_⟩
    rw [flat_rep, show ((k : Nat) : Int).toNat = k by omega]
    exact q _ _ (Same.new np) (.tup (.inl (.inl (cut_upd (hX.new np)))) (all _ k))
end Cs
set_option Elab.async false
set_option linter.all false
set_option maxRecDepth 100000
set_option maxHeartbeats 8000000
/-! the rows of a question, the least price -/
namespace Cs
open PySem PySem.Spec PyProof.Rows L2
def pick (e : Nat) (p : Int × Int) : Int := if e = 0 then p.1 else p.2
abbrev Lines := List (Str × List (Int × Int))
def endsAt (ls : Lines) (place e : Nat) : List Int := ls.map fun l => pick e (l.2.getD place (0, 0))
def rats (ns : List Int) : List Rat := ns.map fun (n : Int) => (n : Rat)
def mMost (ls : Lines) (aim : List (Int × Int)) (place e g : Nat) : List Rat × Rat := (rats (endsAt ls place e), (pick g (aim.getD place (0, 0)) : Rat))
def mLeast (ls : Lines) (aim : List (Int × Int)) (place e g : Nat) : List Rat × Rat := (rats ((endsAt ls place e).map fun n => 0 - n), ((0 - pick g (aim.getD place (0, 0)) : Int) : Rat))
def dRowB (r : List Rat × Rat) : PyData := .tuple [fRow r.1, fr r.2]
def dRowsB (rs : List (List Rat × Rat)) : PyData := .list (rs.map dRowB)
theorem pick_at {K : PySem.W.Frag} {H : Hp} {v : V} {p : Int × Int} {e : Nat} (h : Dp K H v (dSt p)) (he : e < 2) : ∃ a, v = .ref a ∧ SqT K H a [.int p.1, .int p.2] ∧ atI [V.int p.1, V.int p.2] (e : Nat) = some (.int (pick e p)) := by
  obtain ⟨a, rfl, hs⟩ := st_of h
  refine ⟨a, rfl, hs, ?_⟩
  rcases (show e = 0 ∨ e = 1 by omega) with rfl | rfl
  · exact atI_nat (j := 0) rfl
  · exact atI_nat (j := 1) rfl
theorem ints_of {K : PySem.W.Frag} {H : Hp} {v : V} {ns : List Int} (h : Dp K H v (.list (ns.map .int))) : ∃ a, v = .ref a ∧ SqL K H a (ns.map V.int) := by
  obtain ⟨a, xs, rfl, hs, ha⟩ := h.list
  rw [DpAll.ints_eq ha] at hs
  exact ⟨a, rfl, hs⟩
theorem fr_num (K : PySem.W.Frag) {H : Hp} {p : Addr} {n : Int} (hp : H p = none) : Fr K (upd H p (.tup [.int n, .int 1])) (.ref p) (n : Rat) := fr_new (by rw [Rat.num_intCast]) (by rw [Rat.den_intCast]; rfl)
theorem rats_at {ns : List Int} {i : Nat} {d : PyData} (h : (frs (rats ns))[i]? = some d) : ∃ n, ns[i]? = some n ∧ d = fr (n : Rat) := by
  unfold frs rats at h
  rw [List.getElem?_map, List.getElem?_map] at h
  cases e : ns[i]? with
  | none =>
    rw [e] at h
    cases h
  | some n =>
    rw [e] at h
    exact ⟨n, rfl, (Option.some.inj h).symm⟩
section
variable {P : Program} {w : World} {K : PySem.W.Frag} {mg : Str → Option Value} {base : Heap}
abbrev sEnds : Stmt := topS 72
abbrev nEnds : List Str := ["table", "place", "end", "name", "stretches"]
theorem scEnds : FnScope nEnds ["table", "place", "end"] (defScope sEnds) := ⟨rfl, rfl, rfl, by decide +kernel, rfl, by decide +kernel, by decide +kernel⟩
def spEnds (K : PySem.W.Frag) (C : Addr) : Sp := fun vs H Q _ => ∃ (X : List Addr) (t : V) (hs : List Str) (ls : Lines) (place e : Nat), vs = [t, .int place, .int e] ∧ Xin X H ∧ TabAt K C X H t hs ls ∧ place < hs.length ∧ e < 2 ∧ LinesOk hs.length ls ∧
  ∀ H' v, Same H H' → Dp K (cutH X H') v (.list ((endsAt ls place e).map .int)) → Q v H'
theorem c_ends {C : Addr} (D : DefAt K mg "ends_at" sEnds ["table", "place", "end"]) (T : TabC K C) (Ro : PCal P w K mg base 1 C "rows" "lines") : Cal P w K mg base 3 "ends_at" ["table", "place", "end"] (spEnds K C) := by
  refine D.cal fun f fd F => ?_
  refine F.ok scEnds (fun vs H Q E h => ?_) (fun cdv A outer s H vs Q E hr h => ?_)
  · obtain ⟨X, t, hs, ls, place, e, rfl, _⟩ := h
    rfl
  · obtain ⟨X, t, hs, ls, place, e, rfl, hX, ⟨a, dx, h, l, rfl, ea, hh, hl⟩, hpl, he, ok, q⟩ := h
    refine ⟨_, pss_one (ps_ret (pe_lc (own := [("name", 3), ("stretches", 4)]) (g := gTup K 2 (gCons (gName 3) (gCons (gName 4) gNil))) (tt := tYes) rfl scEnds.nd (pi_tup (pe_propC Ro T.cl hr (pv 0))) (blkOk_by (own := [("name", 3), ("stretches", 4)]) (N := nEnds) (sc := defScope sEnds) (by decide +kernel))
      (fun _ _ _ _ _ => pg_tup rfl (pgs_cons (pg_name (i := 3) scEnds.nd rfl (.inl rfl)) (pgs_cons (pg_name (i := 4) scEnds.nd rfl (.inl rfl)) pgs_nil))) (fun _ _ _ _ _ => pts_nil)
      (fun _ _ _ _ _ => pe_ix (ix_tupK K) (pe_ix (ix_tupK K) (pv 4) (pv 1) (fun _ _ => rfl)) (pv 2) (fun _ _ => rfl)))), ?_⟩
    obtain ⟨al, xs, rfl, hsl, hdl⟩ := hl.tuple
    have lx : xs.length = ls.length := by rw [hdl.length, List.length_map]
    have hhi := ok.hi
    have hsl0 := cut_same.tup hsl
    refine ⟨_, rfl, a, dx, _, rfl, ea, a, dx, _, _, rfl, ea, rfl, al, rfl, ⟨_, hsl0⟩, fun D hD => ?_⟩
    refine lc_map (K := K) walk_tup X ((endsAt ls place e).map .int) hX hD (by rw [List.length_map, endsAt, List.length_map, lx]) (by omega) (fun H2 s2 => s2.tup hsl0) ?_ fun H2 s2 ho => q H2 _ s2 ho
    rintro i x H2 H3 d Q2 hd2 s2 sc hX2 ⟨rfl, ex⟩ k
    obtain ⟨ln, el, hln⟩ := lines_at hdl ex
    obtain ⟨a2, b2, rfl, hs2, hb2⟩ := line_of (hln.same (cut_same.trans s2))
    obtain ⟨ab, bs, rfl, hsb, hdb⟩ := hb2.tuple
    have hw := ok.wd ln (List.mem_of_getElem? el)
    obtain ⟨y, ey, hy⟩ := sts_get hdb (List.getElem?_eq_getElem (show place < ln.2.length by omega))
    obtain ⟨ay, rfl, hsy, hat⟩ := pick_at hy he
    have e1 : d = .int (pick e ln.2[place]) := by
      unfold endsAt at hd2
      rw [List.getElem?_map, List.getElem?_map, el] at hd2
      have := (Option.some.inj hd2).symm
      rw [this]
      show PyData.int (pick e (ln.2.getD place (0, 0))) = _
      rw [List.getD_eq_getElem?_getD, List.getElem?_eq_getElem (show place < ln.2.length by omega)]
      rfl
    subst e1
    refine ⟨a2, _, rfl, hs2, rfl, _, _, rfl, _, _, rfl, rfl, rfl, ?_⟩
    exact ⟨_, rfl, _, rfl, ab, bs, _, _, rfl, rfl, hsb, atI_nat ey, _, rfl, ay, _, _, _, rfl, rfl, hsy, hat, k _ _ (Same.refl _) (.int _)⟩
/-! ### most_row, least_row -/
abbrev sMost : Stmt := topS 73
abbrev nMost : List Str := ["table", "target", "place", "end", "goal", "number"]
theorem scMost : FnScope nMost ["table", "target", "place", "end", "goal"] (defScope sMost) := ⟨rfl, rfl, rfl, by decide +kernel, rfl, by decide +kernel, by decide +kernel⟩
abbrev sLeastR : Stmt := topS 74
theorem scLeastR : FnScope nMost ["table", "target", "place", "end", "goal"] (defScope sLeastR) := ⟨rfl, rfl, rfl, by decide +kernel, rfl, by decide +kernel, by decide +kernel⟩
def spRowB (K : PySem.W.Frag) (C : Addr) (m : Lines → List (Int × Int) → Nat → Nat → Nat → List Rat × Rat) : Sp := fun vs H Q _ => ∃ (X : List Addr) (t va : V) (hs : List Str) (ls : Lines) (aim : List (Int × Int)) (place e g : Nat), vs = [t, va, .int place, .int e, .int g] ∧ Xin X H ∧ TabAt K C X H t hs ls ∧ Dp K (cutH X H) va (dAim aim) ∧
  place < hs.length ∧ aim.length = hs.length ∧ e < 2 ∧ g < 2 ∧ LinesOk hs.length ls ∧ ∀ H' v, Same H H' → Dp K (cutH X H') v (dRowB (m ls aim place e g)) → Q v H'
theorem c_most {C : Addr} (D : DefAt K mg "most_row" sMost ["table", "target", "place", "end", "goal"]) (En : Cal P w K mg base 3 "ends_at" ["table", "place", "end"] (spEnds K C)) : Cal P w K mg base 4 "most_row" ["table", "target", "place", "end", "goal"] (spRowB K C mMost) := by
  refine D.cal fun f fd F => ?_
  refine F.ok scMost (fun vs H Q E h => ?_) (fun cdv A outer s H vs Q E hr h => ?_)
  · obtain ⟨X, t, va, hs, ls, aim, place, e, g, rfl, _⟩ := h
    rfl
  · obtain ⟨X, t, va, hs, ls, aim, place, e, g, rfl, hX, hT, ha, hpl, hal, he, hg, ok, q⟩ := h
    refine ⟨_, pss_one (ps_ret (pe_tup (pa_cons (pe_lc (own := [("number", 5)]) (g := gName 5) (tt := tYes) rfl scMost.nd (pi_list (pe_cal En hr (pa_cons (pv 0) (pa_cons (pv 2) (pa_cons (pv 3) pa_nil))))) (blkOk_by (own := [("number", 5)]) (N := nMost) (sc := defScope sMost) (by decide +kernel))
      (fun _ _ _ _ _ => pg_name (i := 5) scMost.nd rfl (.inl rfl)) (fun _ _ _ _ _ => pts_nil) (fun _ _ _ _ _ => pe_tup (pa_cons (pv 5) (pa_cons pe_int pa_nil))))
      (pa_cons (pe_tup (pa_cons (pe_ix (ix_tupK K) (pe_ix (ix_tupK K) (pv 1) (pv 2) (fun _ _ => rfl)) (pv 4) (fun _ _ => rfl)) (pa_cons pe_int pa_nil))) pa_nil)))), ?_⟩
    refine ⟨_, rfl, _, rfl, _, rfl, X, t, hs, ls, place, e, rfl, hX, hT, hpl, he, ok, fun H1 v1 s1 hv1 => ?_⟩
    obtain ⟨a1, rfl, hs1⟩ := ints_of hv1
    have hs10 := cut_same.seq hs1
    have hhi := ok.hi
    have le : (endsAt ls place e).length = ls.length := by rw [endsAt, List.length_map]
    refine ⟨a1, rfl, ⟨_, hs10⟩, fun D hD => ?_⟩
    refine lc_map (K := K) walk_list X (frs (rats (endsAt ls place e))) (hX.same s1) hD (by rw [frs_len, rats, List.length_map, List.length_map]) (by rw [List.length_map]; omega) (fun H2 s2 => s2.seq hs10) ?_ fun H2 s2 ho => ?_
    · rintro i x H2 H3 d Q2 hd2 s2 sc hX2 ⟨rfl, ex⟩ k
      obtain ⟨n, en, rfl⟩ := rats_at hd2
      rw [List.getElem?_map, en] at ex
      cases ex
      refine ⟨rfl, _, rfl, (by show 2 ≤ sizeLine; decide), fun p np => ?_⟩
      have s3 := Same.new (o := .tup [.int n, .int 1]) np
      exact k _ _ s3 ((fr_num K np).cut (hX2.same s3)).dp
    · obtain ⟨aa, as, rfl, hsa, hda⟩ := (ha.same (same_cut (s1.trans s2))).tuple
      obtain ⟨y, ey, hy⟩ := sts_get hda (List.getElem?_eq_getElem (show place < aim.length by omega))
      obtain ⟨ay, rfl, hsy, hat⟩ := pick_at (hy.same cut_same) hg
      refine ⟨_, rfl, _, rfl, aa, as, _, _, rfl, rfl, cut_same.tup hsa, atI_nat ey, _, rfl, ay, _, _, _, rfl, rfl, hsy, hat, (by show 2 ≤ sizeLine; decide), fun p np => ⟨(by show 2 ≤ sizeLine; decide), fun t2 nt2 => ?_⟩⟩
      have s3 := Same.new (o := .tup [.int (pick g aim[place]), .int 1]) np
      have s4 := Same.new (o := .tup [.ref D, .ref p]) nt2
      have hX4 := hX.same (s1.trans (s2.trans s3))
      have hb := ((fr_num K np (n := pick g aim[place])).cut hX4).dp
      refine q _ _ (s1.trans (s2.trans (s3.trans s4))) ?_
      refine .tup (.inl (.inl (cut_upd (hX4.new nt2)))) (.cons (ho.same (same_cut (s3.trans s4))) (.cons ?_ .nil))
      have e1 : (mMost ls aim place e g).2 = (pick g aim[place] : Rat) := by
        show (pick g (aim.getD place (0, 0)) : Rat) = _
        rw [List.getD_eq_getElem?_getD, List.getElem?_eq_getElem (show place < aim.length by omega)]
        rfl
      rw [e1]
      exact hb.same (same_cut s4)
theorem c_leastR {C : Addr} (D : DefAt K mg "least_row" sLeastR ["table", "target", "place", "end", "goal"]) (En : Cal P w K mg base 3 "ends_at" ["table", "place", "end"] (spEnds K C)) : Cal P w K mg base 4 "least_row" ["table", "target", "place", "end", "goal"] (spRowB K C mLeast) := by
  refine D.cal fun f fd F => ?_
  refine F.ok scLeastR (fun vs H Q E h => ?_) (fun cdv A outer s H vs Q E hr h => ?_)
  · obtain ⟨X, t, va, hs, ls, aim, place, e, g, rfl, _⟩ := h
    rfl
  · obtain ⟨X, t, va, hs, ls, aim, place, e, g, rfl, hX, hT, ha, hpl, hal, he, hg, ok, q⟩ := h
    refine ⟨_, pss_one (ps_ret (pe_tup (pa_cons (pe_lc (own := [("number", 5)]) (g := gName 5) (tt := tYes) rfl scLeastR.nd (pi_list (pe_cal En hr (pa_cons (pv 0) (pa_cons (pv 2) (pa_cons (pv 3) pa_nil))))) (blkOk_by (own := [("number", 5)]) (N := nMost) (sc := defScope sLeastR) (by decide +kernel))
      (fun _ _ _ _ _ => pg_name (i := 5) scLeastR.nd rfl (.inl rfl)) (fun _ _ _ _ _ => pts_nil) (fun _ _ _ _ _ => pe_tup (pa_cons (pe_op op_sub pe_int (pv 5)) (pa_cons pe_int pa_nil))))
      (pa_cons (pe_tup (pa_cons (pe_op op_sub pe_int (pe_ix (ix_tupK K) (pe_ix (ix_tupK K) (pv 1) (pv 2) (fun _ _ => rfl)) (pv 4) (fun _ _ => rfl))) (pa_cons pe_int pa_nil))) pa_nil)))), ?_⟩
    refine ⟨_, rfl, _, rfl, _, rfl, X, t, hs, ls, place, e, rfl, hX, hT, hpl, he, ok, fun H1 v1 s1 hv1 => ?_⟩
    obtain ⟨a1, rfl, hs1⟩ := ints_of hv1
    have hs10 := cut_same.seq hs1
    have hhi := ok.hi
    have le : (endsAt ls place e).length = ls.length := by rw [endsAt, List.length_map]
    refine ⟨a1, rfl, ⟨_, hs10⟩, fun D hD => ?_⟩
    refine lc_map (K := K) walk_list X (frs (rats ((endsAt ls place e).map fun n => 0 - n))) (hX.same s1) hD (by rw [frs_len, rats, List.length_map, List.length_map, List.length_map]) (by rw [List.length_map]; omega) (fun H2 s2 => s2.seq hs10) ?_ fun H2 s2 ho => ?_
    · rintro i x H2 H3 d Q2 hd2 s2 sc hX2 ⟨rfl, ex⟩ k
      obtain ⟨n, en, rfl⟩ := rats_at hd2
      rw [List.getElem?_map] at en ex
      cases e0 : (endsAt ls place e)[i]? with
      | none =>
        rw [e0] at en
        cases en
      | some n0 =>
        rw [e0] at en ex
        cases en
        cases ex
        refine ⟨rfl, _, rfl, _, _, rfl, rfl, (by show 2 ≤ sizeLine; decide), fun p np => ?_⟩
        have s3 := Same.new (o := .tup [.int (0 - n0), .int 1]) np
        exact k _ _ s3 ((fr_num K np).cut (hX2.same s3)).dp
    · obtain ⟨aa, as, rfl, hsa, hda⟩ := (ha.same (same_cut (s1.trans s2))).tuple
      obtain ⟨y, ey, hy⟩ := sts_get hda (List.getElem?_eq_getElem (show place < aim.length by omega))
      obtain ⟨ay, rfl, hsy, hat⟩ := pick_at (hy.same cut_same) hg
      refine ⟨_, rfl, _, rfl, aa, as, _, _, rfl, rfl, cut_same.tup hsa, atI_nat ey, _, rfl, ay, _, _, _, rfl, rfl, hsy, hat, _, _, rfl, rfl, (by show 2 ≤ sizeLine; decide), fun p np => ⟨(by show 2 ≤ sizeLine; decide), fun t2 nt2 => ?_⟩⟩
      have s3 := Same.new (o := .tup [.int (0 - pick g aim[place]), .int 1]) np
      have s4 := Same.new (o := .tup [.ref D, .ref p]) nt2
      have hX4 := hX.same (s1.trans (s2.trans s3))
      have hb := ((fr_num K np (n := 0 - pick g aim[place])).cut hX4).dp
      refine q _ _ (s1.trans (s2.trans (s3.trans s4))) ?_
      refine .tup (.inl (.inl (cut_upd (hX4.new nt2)))) (.cons (ho.same (same_cut (s3.trans s4))) (.cons ?_ .nil))
      have e1 : (mLeast ls aim place e g).2 = ((0 - pick g aim[place] : Int) : Rat) := by
        show ((0 - pick g (aim.getD place (0, 0)) : Int) : Rat) = _
        rw [List.getD_eq_getElem?_getD, List.getElem?_eq_getElem (show place < aim.length by omega)]
        rfl
      rw [e1]
      exact hb.same (same_cut s4)
end
end Cs
set_option Elab.async false
set_option linter.all false
set_option maxRecDepth 100000
set_option maxHeartbeats 8000000
/-! cheapest_of -/
namespace Cs
open PySem PySem.Spec PyProof.Rows L2
theorem rep_read {H : Hp} {l : Addr} {v : V} {n : Nat} {Q : VK} (hl : H l = some (.lst [v])) (hn : n ≤ 1000) (k : ∀ q', H q' = none → Q (.ref q') (upd H q' (.lst (List.replicate n v)))) : rRep (.ref l) (.int (n : Nat)) H Q := by
  refine ⟨l, (n : Nat), [v], rfl, rfl, hl, by omega, by omega, ?_, fun q' hq => ?_⟩
  · show 1 * ((n : Nat) : Int).toNat ≤ sizeLine
    exact Nat.le_of_lt (small1000 (by omega))
  · rw [flat_rep, show ((n : Nat) : Int).toNat = n by omega]
    exact k q' hq
/-- a row that is taken -/
structure RowOk (n : Nat) (r : List Rat × Rat) : Prop where
  len : r.1.length = n
  num : ∀ q ∈ r.1, Cm.IsInt q ∧ Cm.Ab 100 q
  bnd : Cm.IsInt r.2 ∧ Cm.Ab 100 r.2
def aRows (n : Nat) (rows : List (List Rat × Rat)) : List (List Rat) := rows.map Prod.fst ++ [List.replicate n 1, List.replicate n (-1)]
def aBnds (rows : List (List Rat × Rat)) : List Rat := rows.map Prod.snd ++ [1, -1]
theorem vec_all {P : Rat → Prop} (h0 : P 0) {r : List Rat} (h : ∀ q ∈ r, P q) (j : Nat) : P (vec r j) := by
  unfold vec
  by_cases hj : j < r.length
  · rw [List.getD_eq_getElem?_getD, List.getElem?_eq_getElem hj]
    exact h _ (List.getElem_mem hj)
  · rw [List.getD_eq_getElem?_getD, List.getElem?_eq_none (by omega)]
    exact h0
theorem ent_all {P : Rat → Prop} (h0 : P 0) {A : List (List Rat)} (h : ∀ r ∈ A, ∀ q ∈ r, P q) (i j : Nat) : P (ent A i j) := by
  show P (vec (A.getD i []) j)
  by_cases hi : i < A.length
  · rw [List.getD_eq_getElem?_getD, List.getElem?_eq_getElem hi]
    exact vec_all h0 (h _ (List.getElem_mem hi)) j
  · rw [List.getD_eq_getElem?_getD, List.getElem?_eq_none (by omega)]
    exact h0
def Sm (c : Rat) (q : Rat) : Prop := Cm.IsInt q ∧ Cm.Ab c q
theorem sm_zero {c : Rat} (hc : 0 ≤ c) : Sm c 0 := ⟨⟨0, rfl⟩, by grind, by grind⟩
theorem lp_of {n : Nat} {rows : List (List Rat × Rat)} (h6 : rows.length ≤ 6) (hn : n ≤ 8) (ok : ∀ r ∈ rows, RowOk n r) : Lp (rows.length + 2) n (aRows n rows) (aBnds rows) := by
  have one : Sm 100 1 := ⟨⟨1, rfl⟩, by constructor <;> decide⟩
  have mone : Sm 100 (-1) := ⟨⟨-1, rfl⟩, by constructor <;> decide⟩
  refine ⟨by simp [aRows], by simp [aBnds], by omega, hn, fun r hr => ?_, ?_, ?_⟩
  · unfold aRows at hr
    rcases List.mem_append.mp hr with hr | hr
    · obtain ⟨x, hx, rfl⟩ := List.mem_map.mp hr
      exact (ok x hx).len
    · rcases List.mem_cons.mp hr with rfl | hr
      · exact List.length_replicate
      · rcases List.mem_singleton.mp hr with rfl
        exact List.length_replicate
  · refine ent_all (P := Sm 100) (sm_zero (by decide)) fun r hr q hq => ?_
    unfold aRows at hr
    rcases List.mem_append.mp hr with hr | hr
    · obtain ⟨x, hx, rfl⟩ := List.mem_map.mp hr
      exact (ok x hx).num q hq
    · rcases List.mem_cons.mp hr with rfl | hr
      · rw [(List.mem_replicate.mp hq).2]
        exact one
      · rcases List.mem_singleton.mp hr with rfl
        rw [(List.mem_replicate.mp hq).2]
        exact mone
  · refine vec_all (P := Sm 100) (sm_zero (by decide)) fun q hq => ?_
    unfold aBnds at hq
    rcases List.mem_append.mp hq with hq | hq
    · obtain ⟨x, hx, rfl⟩ := List.mem_map.mp hq
      exact (ok x hx).bnd
    · rcases List.mem_cons.mp hq with rfl | hq
      · exact one
      · rcases List.mem_singleton.mp hq with rfl
        exact mone
theorem fees_sm {fees : List Int} (h : FeesOk fees) : (∀ k, Cm.IsInt (vec (rats fees) k) ∧ Cm.Ab 1000 (vec (rats fees) k)) ∧ ∀ k, 0 ≤ vec (rats fees) k := by
  have key : ∀ q ∈ rats fees, Sm 1000 q ∧ 0 ≤ q := fun q hq => by
    obtain ⟨n, hn, rfl⟩ := List.mem_map.mp hq
    obtain ⟨h1, h2⟩ := h n hn
    have a : (0 : Rat) ≤ (n : Rat) := by exact_mod_cast h1
    have b : (n : Rat) ≤ 1000 := by exact_mod_cast h2
    exact ⟨⟨⟨n, rfl⟩, by constructor <;> grind⟩, a⟩
  exact ⟨vec_all (P := Sm 1000) (sm_zero (by decide)) fun q hq => (key q hq).1, vec_all (P := fun q => 0 ≤ q) (by decide) fun q hq => (key q hq).2⟩
/-- what cheapest_of tells -/
def CheapOut (n : Nat) (rows : List (List Rat × Rat)) (fees : List Int) (o : Option (List Rat × Rat)) : Prop := LpOut (rows.length + 2) n (aRows n rows) (aBnds rows) (rats fees) o
section
variable {P : Program} {w : World} {K : PySem.W.Frag} {mg : Str → Option Value} {base : Heap}
theorem rowB_at {H : Hp} {xs : List V} {rows : List (List Rat × Rat)} {i : Nat} {x : V} (h : DpAll K H xs (rows.map dRowB)) (e : xs[i]? = some x) : ∃ r, rows[i]? = some r ∧ Dp K H x (dRowB r) := by
  obtain ⟨d, e1, e2⟩ := h.at e
  rw [List.getElem?_map] at e1
  cases e3 : rows[i]? with
  | none =>
    rw [e3] at e1
    cases e1
  | some q =>
    rw [e3] at e1
    cases e1
    exact ⟨q, rfl, e2⟩
theorem rowB_of {H : Hp} {v : V} {r : List Rat × Rat} (h : Dp K H v (dRowB r)) : ∃ a x y, v = .ref a ∧ SqT K H a [x, y] ∧ Dp K H x (fRow r.1) ∧ Dp K H y (fr r.2) := by
  obtain ⟨a, xs, rfl, hs, ha⟩ := h.tuple
  cases ha with
  | cons h1 h2 =>
    cases h2 with
    | cons h3 h4 =>
      cases h4
      exact ⟨a, _, _, rfl, hs, h1, h3⟩
abbrev sCheap : Stmt := topS 75
abbrev nCheap : List Str := ["table", "rows", "prices", "many", "numbers", "bounds", "row", "bound", "price"]
theorem scCheap : FnScope nCheap ["table", "rows", "prices"] (defScope sCheap) := ⟨rfl, rfl, rfl, by decide +kernel, rfl, by decide +kernel, by decide +kernel⟩
def spCheap (K : PySem.W.Frag) (CT CO : Addr) : Sp := fun vs H Q _ => ∃ (X : List Addr) (t vr vp : V) (hs : List Str) (ls : Lines) (rows : List (List Rat × Rat)) (fees : List Int), vs = [t, vr, vp] ∧ Xin X H ∧ TabAt K CT X H t hs ls ∧ Dp K (cutH X H) vr (dRowsB rows) ∧ Dp K (cutH X H) vp (iTup' fees) ∧
  ls.length ≤ 8 ∧ rows.length ≤ 6 ∧ (∀ r ∈ rows, RowOk ls.length r) ∧ fees.length = ls.length ∧ FeesOk fees ∧ ∀ H' v o, Same H H' → OutAt K CO X H' v o → CheapOut ls.length rows fees o → Q v H'
theorem c_cheap {CT CO : Addr} (D : DefAt K mg "cheapest_of" sCheap ["table", "rows", "prices"]) (T : TabC K CT) (B : Bn mg) (O : Cst K mg "ONE" 1) (Ro : PCal P w K mg base 1 CT "rows" "lines") (So : Cal P w K mg base 7 "solved" ["numbers", "bounds", "costs"] (spSolved K CO)) :
    Cal P w K mg base 8 "cheapest_of" ["table", "rows", "prices"] (spCheap K CT CO) := by
  refine D.cal fun f fd F => ?_
  refine F.ok scCheap (fun vs H Q E h => ?_) (fun cdv A outer s H vs Q E hr h => ?_)
  · obtain ⟨X, t, vr, vp, hs, ls, rows, fees, rfl, _⟩ := h
    rfl
  · obtain ⟨X, t, vr, vp, hs, ls, rows, fees, rfl, hX, ⟨a, dx, h, l, rfl, ea, hh, hl⟩, hrw, hp, l8, r6, ok, lf, okf, q⟩ := h
    have pair : ∀ {σ : L2.St}, True := trivial
    refine ⟨_, pss_cons (ps_set (i := 3) scCheap.nd rfl (.inl rfl) (pe_callB call_len_seq (by rfl) B.len PySem.boot_len (pa_cons (pe_propC Ro T.cl hr (pv 0)) pa_nil)))
      (pss_cons (ps_set (i := 4) scCheap.nd rfl (.inl rfl) (pe_lst (StX.pa_star (pe_lc (own := [("row", 6), ("bound", 7)]) (g := gTup K 2 (gCons (gName 6) (gCons (gName 7) gNil))) (tt := tYes) rfl scCheap.nd (pi_list (pv 1)) (blkOk_by (own := [("row", 6), ("bound", 7)]) (N := nCheap) (sc := defScope sCheap) (by decide +kernel))
          (fun _ _ _ _ _ => pg_tup rfl (pgs_cons (pg_name (i := 6) scCheap.nd rfl (.inl rfl)) (pgs_cons (pg_name (i := 7) scCheap.nd rfl (.inl rfl)) pgs_nil))) (fun _ _ _ _ _ => pts_nil) (fun _ _ _ _ _ => pv 6))
        (pa_cons (pe_op op_rep (pe_lst (pa_cons (pe_cst O) pa_nil)) (pv 3)) (pa_cons (pe_op op_rep (pe_lst (pa_cons (pe_tup (pa_cons (pe_op op_sub pe_int pe_int) (pa_cons pe_int pa_nil))) pa_nil)) (pv 3)) pa_nil)))))
      (pss_cons (ps_set (i := 5) scCheap.nd rfl (.inl rfl) (pe_lst (StX.pa_star (pe_lc (own := [("row", 6), ("bound", 7)]) (g := gTup K 2 (gCons (gName 6) (gCons (gName 7) gNil))) (tt := tYes) rfl scCheap.nd (pi_list (pv 1)) (blkOk_by (own := [("row", 6), ("bound", 7)]) (N := nCheap) (sc := defScope sCheap) (by decide +kernel))
          (fun _ _ _ _ _ => pg_tup rfl (pgs_cons (pg_name (i := 6) scCheap.nd rfl (.inl rfl)) (pgs_cons (pg_name (i := 7) scCheap.nd rfl (.inl rfl)) pgs_nil))) (fun _ _ _ _ _ => pts_nil) (fun _ _ _ _ _ => pv 7))
        (pa_cons (pe_cst O) (pa_cons (pe_tup (pa_cons (pe_op op_sub pe_int pe_int) (pa_cons pe_int pa_nil))) pa_nil)))))
      (pss_one (ps_ret (pe_cal So hr (pa_cons (pv 4) (pa_cons (pv 5) (pa_cons (pe_lc (own := [("price", 8)]) (g := gName 8) (tt := tYes) rfl scCheap.nd (pi_tup (pv 2)) (blkOk_by (own := [("price", 8)]) (N := nCheap) (sc := defScope sCheap) (by decide +kernel))
        (fun _ _ _ _ _ => pg_name (i := 8) scCheap.nd rfl (.inl rfl)) (fun _ _ _ _ _ => pts_nil) (fun _ _ _ _ _ => pe_tup (pa_cons (pv 8) (pa_cons pe_int pa_nil)))) pa_nil)))))))), ?_⟩
    obtain ⟨al, xs, rfl, hsl, hdl⟩ := hl.tuple
    obtain ⟨ar, rs, rfl, hsr, hdr⟩ := hrw.list
    obtain ⟨ap, ps, rfl, hsp, hdp⟩ := hp.tuple
    have lx : xs.length = ls.length := by rw [hdl.length, List.length_map]
    have lr : rs.length = rows.length := by rw [hdr.length, List.length_map]
    have lp : ps.length = fees.length := by rw [hdp.length, List.length_map]
    refine ⟨_, rfl, a, dx, _, rfl, ea, a, dx, _, _, rfl, ea, rfl, al, xs, rfl, .inr (cut_same.tup hsl), ?_⟩
    rw [lx]
    -- numbers
    refine ⟨_, rfl, ar, rfl, ⟨_, cut_same.seq hsr⟩, fun D1 hD1 => ?_⟩
    refine lc_map (K := K) walk_list X ((rows.map Prod.fst).map fRow) hX hD1 (by rw [List.length_map, List.length_map, lr]) (by omega) (fun H2 s2 => s2.seq (cut_same.seq hsr)) ?_ fun H2 s2 ho => ?_
    · rintro i x H2 H3 d Q2 hd2 s2 sc hX2 ⟨rfl, ex⟩ k
      obtain ⟨r, er, hr2⟩ := rowB_at hdr ex
      obtain ⟨a2, y, z, rfl, hs2, hy, hz⟩ := rowB_of (hr2.same sc)
      have e1 : d = fRow r.1 := by
        rw [List.getElem?_map, List.getElem?_map, er] at hd2
        exact (Option.some.inj hd2).symm
      subst e1
      exact ⟨a2, _, rfl, cut_same.tup hs2, rfl, _, _, rfl, _, _, rfl, rfl, rfl, _, rfl, k _ _ (Same.refl _) hy⟩
    obtain ⟨a2, xs2, e2, hs2, hd2⟩ := ho.list
    cases e2
    refine ⟨_, xs2, rfl, .inr (cut_same.seq hs2), ?_⟩
    have n3 : (3 : Nat) ≤ 1000 := by decide
    refine fun vo hvo => ⟨(by show 1 ≤ sizeLine; decide), fun q1 nq1 => ⟨_, rfl, rep_read upd_same (by omega) fun q2 nq2 => ?_⟩⟩
    have s3 : Same H2 (upd H2 q1 (.lst [vo])) := Same.new nq1
    have s4 : Same (upd H2 q1 (.lst [vo])) (upd (upd H2 q1 (.lst [vo])) q2 (.lst (List.replicate ls.length vo))) := Same.new nq2
    have hX4 := hX.same (s2.trans (s3.trans s4))
    have h1s : Dp K (cutH X (upd (upd H2 q1 (.lst [vo])) q2 (.lst (List.replicate ls.length vo)))) (.ref q2) (fRow (List.replicate ls.length 1)) := .lst (.inl (.inl (cut_upd ((hX.same (s2.trans s3)).new nq2)))) (dp_rep ((hvo.same (s3.trans s4)).cut hX4) _)
    have s24 := s3.trans s4
    generalize (upd (upd H2 q1 (.lst [vo])) q2 (.lst (List.replicate ls.length vo))) = H4 at s24 h1s hX4 ⊢
    clear s3 s4 nq1 nq2
    refine ⟨_, _, rfl, rfl, (by show 2 ≤ sizeLine; decide), fun t1 nt1 => ⟨(by show 1 ≤ sizeLine; decide), fun q1 nq1 => ⟨_, rfl, rep_read upd_same (by omega) fun q2' nq2 => ?_⟩⟩⟩
    have s5 : Same H4 (upd H4 t1 (.tup [.int (0 - 1), .int 1])) := Same.new nt1
    have hm1 : Fr K (upd H4 t1 (.tup [.int (0 - 1), .int 1])) (.ref t1) (-1) := fr_new rfl rfl
    generalize (upd H4 t1 (.tup [.int (0 - 1), .int 1])) = H5 at s5 hm1 nq1 nq2 ⊢
    have s6 : Same H5 (upd H5 q1 (.lst [.ref t1])) := Same.new nq1
    have s7 : Same (upd H5 q1 (.lst [.ref t1])) (upd (upd H5 q1 (.lst [.ref t1])) q2' (.lst (List.replicate ls.length (.ref t1)))) := Same.new nq2
    have hX7 := hX4.same (s5.trans (s6.trans s7))
    have h2s : Dp K (cutH X (upd (upd H5 q1 (.lst [.ref t1])) q2' (.lst (List.replicate ls.length (.ref t1))))) (.ref q2') (fRow (List.replicate ls.length (-1))) := .lst (.inl (.inl (cut_upd ((hX4.same (s5.trans s6)).new nq2)))) (dp_rep ((hm1.same (s6.trans s7)).cut hX7) _)
    have s47 := s5.trans (s6.trans s7)
    generalize (upd (upd H5 q1 (.lst [.ref t1])) q2' (.lst (List.replicate ls.length (.ref t1)))) = H7 at s47 h2s hX7 ⊢
    clear s6 s7 s5 nq1 nq2 nt1 hm1
    refine ⟨?_, fun p np => ?_⟩
    · have : xs2.length = rows.length := by rw [hd2.length, List.length_map, List.length_map]
      rw [List.length_append]
      exact Nat.le_of_lt (small1000 (by simp; omega))
    have s8 := Same.new (o := .lst (xs2 ++ [.ref q2, .ref q2'])) np
    have s08 := s2.trans (s24.trans (s47.trans s8))
    have hnum : Dp K (cutH X (upd H7 p (.lst (xs2 ++ [.ref q2, .ref q2'])))) (.ref p) (fRows (aRows ls.length rows)) := by
      refine .lst (.inl (.inl (cut_upd (hX7.new np)))) ?_
      unfold aRows
      rw [List.map_append]
      exact (hd2.same (same_cut (s24.trans (s47.trans s8)))).append (.cons (h1s.same (same_cut (s47.trans s8))) (.cons (h2s.same (same_cut s8)) .nil))
    generalize (upd H7 p (.lst (xs2 ++ [.ref q2, .ref q2']))) = H8 at s08 hnum ⊢
    clear s8 s47 s24 h1s h2s hd2 hs2 ho hvo
    generalize hσ : List.set _ 3 (some (V.int (ls.length : Nat))) = σ
    obtain rfl : [some (V.ref a), some (V.ref ar), some (V.ref ap), some (V.int (ls.length : Nat)), none, none, none, none, none] = σ := hσ
    -- bounds
    refine ⟨_, rfl, ar, rfl, ⟨_, s08.seq (cut_same.seq hsr)⟩, fun D2 hD2 => ?_⟩
    have hX8 := hX.same s08
    refine lc_map (K := K) walk_list X (frs (rows.map Prod.snd)) hX8 hD2 (by rw [frs_len, List.length_map, lr]) (by omega) (fun H9 s9 => (s08.trans s9).seq (cut_same.seq hsr)) ?_ fun H9 s9 ho => ?_
    · rintro i x H9 H10 d Q2 hd2 s9 sc hX2 ⟨rfl, ex⟩ k
      obtain ⟨r, er, hr2⟩ := rowB_at hdr ex
      obtain ⟨a2, y, z, rfl, hs2, hy, hz⟩ := rowB_of (hr2.same (cut_same.trans (s08.trans s9)))
      have e1 : d = fr r.2 := by
        unfold frs at hd2
        rw [List.getElem?_map, List.getElem?_map, er] at hd2
        exact (Option.some.inj hd2).symm
      subst e1
      exact ⟨a2, _, rfl, hs2, rfl, _, _, rfl, _, _, rfl, rfl, rfl, _, rfl, k _ _ (Same.refl _) ((Fr.of hz).cut hX2).dp⟩
    obtain ⟨a3, xs3, e3, hs3, hd3⟩ := ho.list
    cases e3
    refine ⟨_, xs3, rfl, .inr (cut_same.seq hs3), fun vo hvo => ⟨_, _, rfl, rfl, (by show 2 ≤ sizeLine; decide), fun t1 nt1 => ⟨?_, fun p2 np2 => ?_⟩⟩⟩
    · have : xs3.length = rows.length := by rw [hd3.length, frs_len, List.length_map]
      rw [List.length_append]
      exact Nat.le_of_lt (small1000 (by simp; omega))
    have s10 : Same H9 (upd H9 t1 (.tup [.int (0 - 1), .int 1])) := Same.new nt1
    have hm1 : Fr K (upd H9 t1 (.tup [.int (0 - 1), .int 1])) (.ref t1) (-1) := fr_new rfl rfl
    have s11 := Same.new (o := .lst (xs3 ++ [vo, .ref t1])) np2
    have hX11 := hX8.same (s9.trans (s10.trans s11))
    have hbnd : Dp K (cutH X (upd (upd H9 t1 (.tup [.int (0 - 1), .int 1])) p2 (.lst (xs3 ++ [vo, .ref t1])))) (.ref p2) (fRow (aBnds rows)) := by
      refine .lst (.inl (.inl (cut_upd ((hX8.same (s9.trans s10)).new np2)))) ?_
      unfold aBnds
      rw [frs_append]
      exact (hd3.same (same_cut (s10.trans s11))).append (.cons ((hvo.same (s10.trans s11)).cut hX11).dp (.cons ((hm1.same s11).cut hX11).dp .nil))
    have s811 := s9.trans (s10.trans s11)
    generalize (upd (upd H9 t1 (.tup [.int (0 - 1), .int 1])) p2 (.lst (xs3 ++ [vo, .ref t1]))) = H11 at s811 hbnd hX11 ⊢
    -- costs
    have s011 := s08.trans s811
    refine ⟨_, rfl, _, rfl, _, rfl, ap, rfl, ⟨_, s011.tup (cut_same.tup hsp)⟩, fun D3 hD3 => ?_⟩
    refine lc_map (K := K) walk_tup X (frs (rats fees)) hX11 hD3 (by rw [frs_len, rats, List.length_map, lp]) (by omega) (fun H9 s9 => (s011.trans s9).tup (cut_same.tup hsp)) ?_ fun H12 s12 ho3 => ?_
    · rintro i x H9 H10 d Q2 hd2 s9 sc hX2 ⟨rfl, ex⟩ k
      obtain ⟨n, en, rfl⟩ := rats_at hd2
      obtain ⟨n', en', rfl⟩ := ints_at hdp ex
      rw [en] at en'
      cases en'
      refine ⟨rfl, _, rfl, (by show 2 ≤ sizeLine; decide), fun p np => ?_⟩
      have s3 := Same.new (o := .tup [.int n, .int 1]) np
      exact k _ _ s3 ((fr_num K np).cut (hX2.same s3)).dp
    · have L := lp_of r6 l8 ok
      have lrf : (rats fees).length = ls.length := by rw [rats, List.length_map, lf]
      have s012 := s011.trans s12
      exact ⟨X, _, _, _, rows.length + 2, ls.length, aRows ls.length rows, aBnds rows, rats fees, rfl, hX.same s012, hnum.same (same_cut (s811.trans s12)), hbnd.same (same_cut s12), ho3, L, lrf, (fees_sm okf).1, (fees_sm okf).2, fun H' v o s' hO hL => q H' v o (s012.trans s') hO hL⟩
end
end Cs
set_option Elab.async false
set_option linter.all false
set_option maxRecDepth 100000
set_option maxHeartbeats 8000000
/-! corner_rows, both_rows, no_prices, sure_found, possible_found -/
namespace Cs
open PySem PySem.Spec PyProof.Rows L2
section
variable {J : It} {n : Nat} {G : Hp → Prop} {Y : Nat → Hp → V → Hp → Prop} {K : PySem.W.Frag}
/-- lc_map, and the new list itself -/
theorem lc_mapR (w : Walk J n G Y) {g : TG} {te : TE} {vs : List Nat} {σ : L2.St} {H1 : Hp} {D : Addr} {Qd : Hp → Prop} (X : List Addr) (ds : List PyData) (hX : Xin X H1) (hD : H1 D = none) (hn : ds.length = n) (hn2 : n ≤ 1000) (hG : ∀ H, Same H1 H → G H)
    (hs : ∀ i x H H' d (Q : VK), ds[i]? = some d → Same H1 H → Same (cutH X H1) (cutH (D :: X) H) → Xin (D :: X) H → Y i H x H' →
      (∀ y H3, Same H H3 → Dp K (cutH (D :: X) H3) y d → Q y H3) → g x (wipe σ vs) H' fun σ2 H2 => wipe σ2 vs = wipe σ vs ∧ te σ2 H2 Q)
    (hd : ∀ H xs, Same H1 H → H D = some (.lst xs) → DpAll K (cutH X H) xs ds → Qd H) :
    ∃ W : Nat → Nat → Hp → Prop, (∃ m, W 0 m (upd H1 D (.lst []))) ∧ ∀ i m H, W i m H →
      (J.stop i H ∧ Qd H) ∨ (J.go i H ∧ ∃ Nx : Hp → Prop, (∀ H', Nx H' → ∃ m', m' < m ∧ W (i + 1) m' H') ∧ ∀ x H', J.yld i H x H' → g x (wipe σ vs) H' fun σ2 H2 => wipe σ2 vs = wipe σ vs ∧ tYes σ2 H2 fun b H3 =>
        if b = true then te σ2 H3 fun y H4 => ∃ acc, H4 D = some (.lst acc) ∧ acc.length < sizeLine ∧ Nx (upd H4 D (.lst (acc ++ [y]))) else Nx H3) := by
  refine lc_gen (K := K) w X (fun i H es => Same H1 H ∧ es = ds.take i) hn2 ⟨Same.new hD, rfl⟩ (fun i H es h => hG H h.1) (fun i H es xs h => ⟨fun b o e => ?_, h.2⟩) ?_ ?_
  · rw [upd_ne (ne_of_none e hD)]
    exact h.1 b o e
  · rintro i x H H' es xs Q hi hl ⟨s1, rfl⟩ eD ha hy k
    have hi2 : i < ds.length := by omega
    have g1 : ds[i]? = some ds[i] := List.getElem?_eq_getElem hi2
    refine hs i x H H' ds[i] Q g1 s1 (fun b o e => ?_) ((hX.same s1).cons eD) hy fun y H3 s3 dy => ?_
    · obtain ⟨e1, e2⟩ := cut_at e
      refine cut_mk (s1 _ _ e1) fun hb => ?_
      rcases List.mem_cons.mp hb with rfl | hb
      · rw [hD] at e1
        cases e1
      · exact e2 hb
    · refine k y H3 ds[i] (s3 _ _ eD) (same_cut s3) dy ⟨s1.trans s3, ?_⟩
      rw [List.take_add_one, g1]
      rfl
  · rintro H xs es hl ⟨s1, rfl⟩ eD ha
    rw [List.take_of_length_le (by omega)] at ha
    exact hd H xs s1 eD (ha.same cut_more)
end
abbrev Aim := List (Int × Int)
def Bd (p : Int × Int) : Prop := -100 ≤ p.1 ∧ p.1 ≤ p.2 ∧ p.2 ≤ 100
/-- a question that is taken, of small numbers -/
structure Ask (hs : List Str) (ls : Lines) (aim : Aim) : Prop where
  hd : HeadsOk hs
  w3 : hs.length ≤ 3
  t3 : ls.length ≤ 3
  ln : LinesOk hs.length ls
  al : aim.length = hs.length
  lb : ∀ l ∈ ls, ∀ p ∈ l.2, Bd p
  ab : ∀ p ∈ aim, Bd p
theorem Ask.st {hs : List Str} {ls : Lines} {aim : Aim} (h : Ask hs ls aim) : ∀ p ∈ aim, StOk p := fun p hp => by
  obtain ⟨h1, h2, h3⟩ := h.ab p hp
  exact ⟨by omega, h2, by omega⟩
def mCorner (ls : Lines) (aim : Aim) (sg : List Int) : List (List Rat × Rat) := sg.mapIdx fun place sign => if 0 < sign then mMost ls aim place 1 1 else mLeast ls aim place 0 0
def mBoth (ls : Lines) (aim : Aim) (wide near : Nat) : List (List Rat × Rat) := (List.range wide).map (fun place => mMost ls aim place near 1) ++ (List.range wide).map fun place => mLeast ls aim place (1 - near) 0
theorem pick_bd {p : Int × Int} (h : Bd p) (e : Nat) : -100 ≤ pick e p ∧ pick e p ≤ 100 := by
  obtain ⟨h1, h2, h3⟩ := h
  unfold pick
  split <;> omega
theorem sm_int {n : Int} (h : -100 ≤ n ∧ n ≤ 100) : Cm.IsInt (n : Rat) ∧ Cm.Ab 100 (n : Rat) := by
  have a : ((-100 : Int) : Rat) ≤ (n : Rat) := Rat.intCast_le_intCast.mpr h.1
  have a : (-100 : Rat) ≤ (n : Rat) := a
  have b : (n : Rat) ≤ 100 := by exact_mod_cast h.2
  exact ⟨⟨n, rfl⟩, by constructor <;> grind⟩
section
variable {hs : List Str} {ls : Lines} {aim : Aim}
theorem Ask.pk (h : Ask hs ls aim) {place : Nat} (hp : place < hs.length) (g : Nat) : -100 ≤ pick g (aim.getD place (0, 0)) ∧ pick g (aim.getD place (0, 0)) ≤ 100 := by
  have := h.al
  rw [List.getD_eq_getElem?_getD, List.getElem?_eq_getElem (show place < aim.length by omega)]
  exact pick_bd (h.ab _ (List.getElem_mem _)) g
theorem Ask.en (h : Ask hs ls aim) {place : Nat} (hp : place < hs.length) (e : Nat) : ∀ n ∈ endsAt ls place e, -100 ≤ n ∧ n ≤ 100 := fun n hn => by
  obtain ⟨l, hl, rfl⟩ := List.mem_map.mp hn
  have := h.ln.wd l hl
  rw [List.getD_eq_getElem?_getD, List.getElem?_eq_getElem (show place < l.2.length by omega)]
  exact pick_bd (h.lb l hl _ (List.getElem_mem _)) e
theorem Ask.most (h : Ask hs ls aim) {place : Nat} (hp : place < hs.length) (e g : Nat) : RowOk ls.length (mMost ls aim place e g) := by
  refine ⟨by simp [mMost, rats, endsAt], fun q hq => ?_, sm_int (h.pk hp g)⟩
  obtain ⟨n, hn, rfl⟩ := List.mem_map.mp hq
  exact sm_int (h.en hp e n hn)
theorem Ask.least (h : Ask hs ls aim) {place : Nat} (hp : place < hs.length) (e g : Nat) : RowOk ls.length (mLeast ls aim place e g) := by
  refine ⟨by simp [mLeast, rats, endsAt], fun q hq => ?_, sm_int (by have := h.pk hp g; omega)⟩
  obtain ⟨n, hn, rfl⟩ := List.mem_map.mp hq
  obtain ⟨n0, hn0, rfl⟩ := List.mem_map.mp hn
  exact sm_int (by have := h.en hp e n0 hn0; omega)
theorem Ask.corner (h : Ask hs ls aim) {sg : List Int} (hl : sg.length = hs.length) : ∀ r ∈ mCorner ls aim sg, RowOk ls.length r := fun r hr => by
  obtain ⟨i, hi, e⟩ := List.mem_iff_getElem.mp hr
  unfold mCorner at hi e
  rw [List.length_mapIdx] at hi
  rw [List.getElem_mapIdx] at e
  rw [← e]
  split
  · exact h.most (by omega) 1 1
  · exact h.least (by omega) 0 0
theorem Ask.both (h : Ask hs ls aim) (near : Nat) : ∀ r ∈ mBoth ls aim hs.length near, RowOk ls.length r := fun r hr => by
  rcases List.mem_append.mp hr with hr | hr
  · obtain ⟨i, hi, rfl⟩ := List.mem_map.mp hr
    exact h.most (List.mem_range.mp hi) near 1
  · obtain ⟨i, hi, rfl⟩ := List.mem_map.mp hr
    exact h.least (List.mem_range.mp hi) (1 - near) 0
end
section
variable {P : Program} {w : World} {K : PySem.W.Frag} {mg : Str → Option Value} {base : Heap}
abbrev sCorner : Stmt := topS 76
abbrev nCorner : List Str := ["table", "target", "signs", "place", "sign"]
theorem scCorner : FnScope nCorner ["table", "target", "signs"] (defScope sCorner) := ⟨rfl, rfl, rfl, by decide +kernel, rfl, by decide +kernel, by decide +kernel⟩
def spCorner (K : PySem.W.Frag) (C : Addr) : Sp := fun vs H Q _ => ∃ (X : List Addr) (t va vsg : V) (hs : List Str) (ls : Lines) (aim : Aim) (sg : List Int), vs = [t, va, vsg] ∧ Xin X H ∧ TabAt K C X H t hs ls ∧ Dp K (cutH X H) va (dAim aim) ∧ Dp K (cutH X H) vsg (iTup' sg) ∧ Ask hs ls aim ∧ sg.length = hs.length ∧
  ∀ H' v, Same H H' → Dp K (cutH X H') v (dRowsB (mCorner ls aim sg)) → Q v H'
theorem c_corner {C : Addr} (D : DefAt K mg "corner_rows" sCorner ["table", "target", "signs"]) (B : Bn mg) (Mo : Cal P w K mg base 4 "most_row" ["table", "target", "place", "end", "goal"] (spRowB K C mMost)) (Le : Cal P w K mg base 4 "least_row" ["table", "target", "place", "end", "goal"] (spRowB K C mLeast)) :
    Cal P w K mg base 5 "corner_rows" ["table", "target", "signs"] (spCorner K C) := by
  refine D.cal fun f fd F => ?_
  refine F.ok scCorner (fun vs H Q E h => ?_) (fun cdv A outer s H vs Q E hr h => ?_)
  · obtain ⟨X, t, va, vsg, hs, ls, aim, sg, rfl, _⟩ := h
    rfl
  · obtain ⟨X, t, va, vsg, hs, ls, aim, sg, rfl, hX, hT, ha, hsg, ask, lsg, q⟩ := h
    refine ⟨_, pss_one (ps_ret (pe_lc (own := [("place", 3), ("sign", 4)]) (g := gTup K 2 (gCons (gName 3) (gCons (gName 4) gNil))) (tt := tYes) rfl scCorner.nd (pi_enumT (by rfl) B.enum (pa_cons (pv 2) pa_nil)) (blkOk_by (own := [("place", 3), ("sign", 4)]) (N := nCorner) (sc := defScope sCorner) (by decide +kernel))
      (fun _ _ _ _ _ => pg_tup rfl (pgs_cons (pg_name (i := 3) scCorner.nd rfl (.inl rfl)) (pgs_cons (pg_name (i := 4) scCorner.nd rfl (.inl rfl)) pgs_nil))) (fun _ _ _ _ _ => pts_nil)
      (fun _ _ _ _ _ => pe_ifExp (pt_cmpR op_gt (pv 4) pe_int (nomark _)) (pe_cal Mo hr (pa_cons (pv 0) (pa_cons (pv 1) (pa_cons (pv 3) (pa_cons pe_int (pa_cons pe_int pa_nil)))))) (pe_cal Le hr (pa_cons (pv 0) (pa_cons (pv 1) (pa_cons (pv 3) (pa_cons pe_int (pa_cons pe_int pa_nil))))))))), ?_⟩
    obtain ⟨as, xs, rfl, hss, hds⟩ := hsg.tuple
    have lx : xs.length = sg.length := by rw [hds.length, List.length_map]
    have hs0 := cut_same.tup hss
    have w3 := ask.w3
    refine ⟨_, rfl, as, xs, rfl, hs0, fun D hD => ?_⟩
    refine lc_map (K := K) walk_enumT X ((mCorner ls aim sg).map dRowB) hX hD (by rw [List.length_map, mCorner, List.length_mapIdx, lx]) (by omega) (fun H2 s2 => s2.tup hs0) ?_ fun H2 s2 ho => q H2 _ s2 ho
    rintro i v H2 H3 d Q2 hd2 s2 sc hX2 ⟨T2, x, y, rfl, nT, rfl, ex, ey⟩ k
    cases ex
    obtain ⟨n, en, rfl⟩ := ints_at hds ey
    have s3 : Same H2 (upd H2 T2 (.tup [.int (i : Nat), .int n])) := Same.new nT
    have e1 : d = dRowB (if 0 < n then mMost ls aim i 1 1 else mLeast ls aim i 0 0) := by
      unfold mCorner at hd2
      rw [List.getElem?_map, List.getElem?_mapIdx, en] at hd2
      exact (Option.some.inj hd2).symm
    subst e1
    have hi : i < hs.length := by
      have := (List.getElem?_eq_some_iff.mp en).1
      omega
    have hT3 : TabAt K C (D :: X) (upd H2 T2 (.tup [.int (i : Nat), .int n])) t hs ls := by
      obtain ⟨a, dx, h, l, e, ea, hh, hl⟩ := hT
      exact ⟨a, dx, h, l, e, s3 _ _ (s2 _ _ ea), (hh.same sc).same (same_cut s3), (hl.same sc).same (same_cut s3)⟩
    have ha3 := (ha.same sc).same (same_cut s3)
    refine g_pair ⟨rfl, ?_⟩
    refine ⟨_, rfl, _, _, rfl, rfl, _, rfl, ite2 (fun e => ?_) (fun e => ?_)⟩
    · have e : 0 < n := of_decide_eq_true e
      rw [if_pos e] at k
      exact ⟨_, rfl, _, rfl, _, rfl, D :: X, t, va, hs, ls, aim, i, 1, 1, rfl, hX2.same s3, hT3, ha3, hi, ask.al, by decide, by decide, ask.ln, fun H4 v4 s4 hv4 => k v4 H4 (s3.trans s4) hv4⟩
    · have e : ¬ 0 < n := fun z => e (decide_eq_true z)
      rw [if_neg e] at k
      exact ⟨_, rfl, _, rfl, _, rfl, D :: X, t, va, hs, ls, aim, i, 0, 0, rfl, hX2.same s3, hT3, ha3, hi, ask.al, by decide, by decide, ask.ln, fun H4 v4 s4 hv4 => k v4 H4 (s3.trans s4) hv4⟩
abbrev sBoth : Stmt := topS 77
abbrev nBoth : List Str := ["table", "target", "near", "places", "most", "place"]
theorem scBoth : FnScope nBoth ["table", "target", "near"] (defScope sBoth) := ⟨rfl, rfl, rfl, by decide +kernel, rfl, by decide +kernel, by decide +kernel⟩
def spBoth (K : PySem.W.Frag) (C : Addr) : Sp := fun vs H Q _ => ∃ (X : List Addr) (t va : V) (hs : List Str) (ls : Lines) (aim : Aim) (near : Nat), vs = [t, va, .int near] ∧ Xin X H ∧ TabAt K C X H t hs ls ∧ Dp K (cutH X H) va (dAim aim) ∧ Ask hs ls aim ∧ near < 2 ∧
  ∀ H' v, Same H H' → Dp K (cutH X H') v (dRowsB (mBoth ls aim hs.length near)) → Q v H'
theorem rg0 (n : Nat) : rgV 0 (n : Int) = (List.range n).map vNat := by
  unfold rgV
  rw [show ((n : Int) - 0).toNat = n by omega]
  exact List.map_congr_left fun i _ => by
    show V.int (0 + (i : Int)) = V.int (i : Int)
    rw [Int.zero_add]
theorem range_at {n i : Nat} {x : V} (h : ((List.range n).map vNat)[i]? = some x) : i < n ∧ x = .int i := by
  rw [List.getElem?_map] at h
  by_cases hi : i < n
  · rw [List.getElem?_range hi] at h
    exact ⟨hi, (Option.some.inj h).symm⟩
  · rw [List.getElem?_eq_none (by rw [List.length_range]; omega)] at h
    cases h
theorem c_both {C : Addr} (D : DefAt K mg "both_rows" sBoth ["table", "target", "near"]) (T : TabC K C) (B : Bn mg) (Co : PCal P w K mg base 1 C "columns" "heads") (Mo : Cal P w K mg base 4 "most_row" ["table", "target", "place", "end", "goal"] (spRowB K C mMost)) (Le : Cal P w K mg base 4 "least_row" ["table", "target", "place", "end", "goal"] (spRowB K C mLeast)) :
    Cal P w K mg base 5 "both_rows" ["table", "target", "near"] (spBoth K C) := by
  refine D.cal fun f fd F => ?_
  refine F.ok scBoth (fun vs H Q E h => ?_) (fun cdv A outer s H vs Q E hr h => ?_)
  · obtain ⟨X, t, va, hs, ls, aim, near, rfl, _⟩ := h
    rfl
  · obtain ⟨X, t, va, hs, ls, aim, near, rfl, hX, hT, ha, ask, hn, q⟩ := h
    refine ⟨_, pss_cons (ps_set (i := 3) scBoth.nd rfl (.inl rfl) (pe_listRg rfl (by rfl) B.list (prg_1 (by rfl) B.range (pe_callB call_len_seq (by rfl) B.len PySem.boot_len (pa_cons (pe_propC Co T.cl hr (pv 0)) pa_nil)))))
      (pss_cons (ps_setLc (i := 4) (own := [("place", 5)]) (g := gName 5) (tt := tYes) rfl scBoth.nd rfl rfl (sw_true rfl rfl rfl (by decide +kernel)) (pi_list (pv 3)) (blkOk_by (own := [("place", 5)]) (N := nBoth) (sc := defScope sBoth) (by decide +kernel)) (fun _ _ _ _ _ => pg_name (i := 5) scBoth.nd rfl (.inl rfl)) (fun _ _ _ _ _ => pts_nil)
        (fun _ _ _ _ _ => pe_cal Mo hr (pa_cons (pv 0) (pa_cons (pv 1) (pa_cons (pv 5) (pa_cons (pv 2) (pa_cons pe_int pa_nil)))))))
      (pss_one (ps_ret (pe_op op_cat (pv 4) (pe_lc (own := [("place", 5)]) (g := gName 5) (tt := tYes) rfl scBoth.nd (pi_list (pv 3)) (blkOk_by (own := [("place", 5)]) (N := nBoth) (sc := defScope sBoth) (by decide +kernel)) (fun _ _ _ _ _ => pg_name (i := 5) scBoth.nd rfl (.inl rfl)) (fun _ _ _ _ _ => pts_nil)
        (fun _ _ _ _ _ => pe_cal Le hr (pa_cons (pv 0) (pa_cons (pv 1) (pa_cons (pv 5) (pa_cons (pe_op op_sub pe_int (pv 2)) (pa_cons pe_int pa_nil))))))))))), ?_⟩
    obtain ⟨a, dx, h, l, rfl, ea, hh, hl⟩ := id hT
    obtain ⟨ah, xs, rfl, hsh, hdh⟩ := hh.tuple
    have lx : xs.length = hs.length := by rw [hdh.length, List.length_map]
    have w3 := ask.w3
    refine ⟨_, rfl, a, dx, _, rfl, ea, a, dx, _, _, rfl, ea, rfl, ah, xs, rfl, .inr (cut_same.tup hsh), _, rfl, RgOk.of_le (by omega) (by omega) (by omega) (by omega), fun q1 nq1 => ?_⟩
    rw [lx, rg0]
    have s1 : Same H (upd H q1 (.lst ((List.range hs.length).map vNat))) := Same.new nq1
    have e1 : (upd H q1 (.lst ((List.range hs.length).map vNat))) q1 = some (.lst ((List.range hs.length).map vNat)) := upd_same
    generalize (upd H q1 (.lst ((List.range hs.length).map vNat))) = H1 at s1 e1 ⊢
    have sq1 : SqL K H1 q1 ((List.range hs.length).map vNat) := .inl (.inl e1)
    have lr : ((List.range hs.length).map vNat).length = hs.length := by rw [List.length_map, List.length_range]
    have tab : ∀ {D : Addr} {Ha Hb : Hp}, Same H Ha → Same (cutH X Ha) (cutH (D :: X) Hb) → Same Ha Hb → TabAt K C (D :: X) Hb (.ref a) hs ls := fun {D Ha Hb} s sc sb => ⟨a, dx, _, l, rfl, sb _ _ (s _ _ ea), (hh.same (same_cut s)).same sc, (hl.same (same_cut s)).same sc⟩
    -- most
    refine ⟨_, rfl, q1, rfl, ⟨_, sq1⟩, fun D1 hD1 => ?_⟩
    refine lc_mapR (K := K) walk_list X (((List.range hs.length).map (fun place => mMost ls aim place near 1)).map dRowB) (hX.same s1) hD1 (by simp) (by simp; omega) (fun H2 s2 => s2.seq sq1) ?_ fun H2 ys1 s2 g1 hd1 => ?_
    · rintro i x H2 H3 d Q2 hd2 s2 sc hX2 ⟨rfl, ex⟩ k
      obtain ⟨hi, rfl⟩ := range_at ex
      have e2 : d = dRowB (mMost ls aim i near 1) := by
        rw [List.getElem?_map, List.getElem?_map, List.getElem?_range hi] at hd2
        exact (Option.some.inj hd2).symm
      subst e2
      exact ⟨rfl, _, rfl, _, rfl, _, rfl, _, rfl, D1 :: X, _, va, hs, ls, aim, i, near, 1, rfl, hX2, tab s1 sc s2, (ha.same (same_cut s1)).same sc, hi, ask.al, hn, by decide, ask.ln, fun H4 v4 s4 hv4 => k v4 H4 s4 hv4⟩
    have s12 := s1.trans s2
    -- least
    refine ⟨_, rfl, _, rfl, q1, rfl, ⟨_, s2.seq sq1⟩, fun D2 hD2 => ?_⟩
    refine lc_mapR (K := K) walk_list X (((List.range hs.length).map (fun place => mLeast ls aim place (1 - near) 0)).map dRowB) (hX.same s12) hD2 (by simp) (by simp; omega) (fun H3 s3 => (s2.trans s3).seq sq1) ?_ fun H3 ys2 s3 g2 hd2 => ?_
    · rintro i x H3 H4 d Q2 hd2 s3 sc hX2 ⟨rfl, ex⟩ k
      obtain ⟨hi, rfl⟩ := range_at ex
      have e2 : d = dRowB (mLeast ls aim i (1 - near) 0) := by
        rw [List.getElem?_map, List.getElem?_map, List.getElem?_range hi] at hd2
        exact (Option.some.inj hd2).symm
      subst e2
      have en : (1 : Int) - (near : Nat) = ((1 - near : Nat) : Int) := by omega
      refine ⟨rfl, _, rfl, _, rfl, _, rfl, _, rfl, _, _, rfl, rfl, D2 :: X, _, va, hs, ls, aim, i, 1 - near, 0, ?_, hX2, tab s12 sc s3, (ha.same (same_cut s12)).same sc, hi, ask.al, by omega, by decide, ask.ln, fun H5 v5 s5 hv5 => k v5 H5 s5 hv5⟩
      show [V.ref a, va, V.int (i : Nat), V.int (1 - (near : Nat)), V.int 0] = _
      rw [en]
      rfl
    have l1 : ys1.length = hs.length := by rw [hd1.length]; simp
    have l2 : ys2.length = hs.length := by rw [hd2.length]; simp
    refine ⟨D1, D2, _, _, rfl, rfl, s3 _ _ g1, g2, Nat.le_of_lt (small1000 (by omega)), fun p np => ?_⟩
    have s4 := Same.new (o := .lst (ys1 ++ ys2)) np
    refine q _ _ (s12.trans (s3.trans s4)) (.lst (.inl (.inl (cut_upd ((hX.same (s12.trans s3)).new np)))) ?_)
    unfold mBoth
    rw [List.map_append]
    exact (hd1.same (same_cut (s3.trans s4))).append (hd2.same (same_cut s4))
end
end Cs
set_option Elab.async false
set_option linter.all false
set_option maxRecDepth 100000
set_option maxHeartbeats 8000000
/-! sure_found, possible_found, checks of a question, best_price, sure_price, mixes -/
namespace Cs
open PySem PySem.Spec PyProof.Rows L2
theorem OutAt.same {K : PySem.W.Frag} {C : Addr} {X : List Addr} {H H' : Hp} {v : V} {o : Option (List Rat × Rat)} (h : OutAt K C X H v o) (s : Same H H') : OutAt K C X H' v o := by
  match o, h with
  | none, h =>
    obtain ⟨a, dx, g, e, ea⟩ := h
    exact ⟨a, dx, g, e, s _ _ ea⟩
  | some (x, q), h =>
    obtain ⟨a, dx, p, c, g, e, ea, hp, hc⟩ := h
    exact ⟨a, dx, p, c, g, e, s _ _ ea, hp.same (same_cut s), hc.same s⟩
/-- a cost: None or a fraction -/
def CostAt (K : PySem.W.Frag) (H : Hp) (v : V) : Option (List Rat × Rat) → Prop
  | none => v = .non
  | some (_, q) => Fr K H v q
/-- the values: None or a mix -/
def PointAt (K : PySem.W.Frag) (X : List Addr) (H : Hp) (v : V) : Option (List Rat × Rat) → Prop
  | none => v = .non
  | some (x, _) => Dp K (cutH X H) v (fTup x)
section
variable {P : Program} {w : World} {K : PySem.W.Frag} {mg : Str → Option Value} {base : Heap}
abbrev sNoP : Stmt := topS 78
theorem scNoP : FnScope ["table"] ["table"] (defScope sNoP) := ⟨rfl, rfl, rfl, by decide +kernel, rfl, by decide +kernel, by decide +kernel⟩
def spNoP (K : PySem.W.Frag) (C : Addr) : Sp := fun vs H Q _ => ∃ (X : List Addr) (t : V) (hs : List Str) (ls : Lines), vs = [t] ∧ Xin X H ∧ TabAt K C X H t hs ls ∧ 1 ≤ ls.length ∧ ls.length ≤ 1000 ∧ ∀ H' v, Same H H' → Dp K (cutH X H') v (iTup' (List.replicate ls.length 0)) → Q v H'
theorem c_nop {C : Addr} (D : DefAt K mg "no_prices" sNoP ["table"]) (T : TabC K C) (B : Bn mg) (Ro : PCal P w K mg base 1 C "rows" "lines") : Cal P w K mg base 3 "no_prices" ["table"] (spNoP K C) := by
  refine D.cal fun f fd F => ?_
  refine F.ok scNoP (fun vs H Q E h => ?_) (fun cdv A outer s H vs Q E hr h => ?_)
  · obtain ⟨X, t, hs, ls, rfl, _⟩ := h
    rfl
  · obtain ⟨X, t, hs, ls, rfl, hX, ⟨a, dx, h, l, rfl, ea, hh, hl⟩, h1, h2, q⟩ := h
    refine ⟨_, pss_one (ps_ret (pe_op op_repA (pe_tup (pa_cons pe_int pa_nil)) (pe_callB call_len_seq (by rfl) B.len PySem.boot_len (pa_cons (pe_propC Ro T.cl hr (pv 0)) pa_nil)))), ?_⟩
    obtain ⟨al, xs, rfl, hsl, hdl⟩ := hl.tuple
    have lx : xs.length = ls.length := by rw [hdl.length, List.length_map]
    refine ⟨(by show 1 ≤ sizeLine; decide), fun t1 nt1 => ?_⟩
    have s1 : Same H (upd H t1 (.tup [.int 0])) := Same.new nt1
    refine ⟨_, rfl, a, dx, _, rfl, s1 _ _ ea, a, dx, _, _, rfl, s1 _ _ ea, rfl, al, xs, rfl, .inr (s1.tup (cut_same.tup hsl)), ?_⟩
    rw [lx]
    refine rep_flat (d := .int 0) (.inl (.inl upd_same)) (hX.same s1) (fun _ => .int 0) h1 h2 fun H2 y s2 hy => q _ _ (s1.trans s2) ?_
    unfold iTup'
    rw [List.map_replicate]
    exact hy
abbrev sSure : Stmt := topS 79
abbrev sPoss : Stmt := topS 80
theorem scSure : FnScope ["table", "target", "prices"] ["table", "target", "prices"] (defScope sSure) := ⟨rfl, rfl, rfl, by decide +kernel, rfl, by decide +kernel, by decide +kernel⟩
theorem scPoss : FnScope ["table", "target", "prices"] ["table", "target", "prices"] (defScope sPoss) := ⟨rfl, rfl, rfl, by decide +kernel, rfl, by decide +kernel, by decide +kernel⟩
def spFound (K : PySem.W.Frag) (CT CO : Addr) (near : Nat) : Sp := fun vs H Q _ => ∃ (X : List Addr) (t va vp : V) (hs : List Str) (ls : Lines) (aim : Aim) (fees : List Int), vs = [t, va, vp] ∧ Xin X H ∧ TabAt K CT X H t hs ls ∧ Dp K (cutH X H) va (dAim aim) ∧ Dp K (cutH X H) vp (iTup' fees) ∧ Ask hs ls aim ∧
  fees.length = ls.length ∧ FeesOk fees ∧ ∀ H' v o, Same H H' → OutAt K CO X H' v o → CheapOut ls.length (mBoth ls aim hs.length near) fees o → Q v H'
theorem both_len (ls : Lines) (aim : Aim) (n near : Nat) : (mBoth ls aim n near).length = 2 * n := by
  unfold mBoth
  simp
  omega
theorem c_sure {CT CO : Addr} (D : DefAt K mg "sure_found" sSure ["table", "target", "prices"]) (Bo : Cal P w K mg base 5 "both_rows" ["table", "target", "near"] (spBoth K CT)) (Ch : Cal P w K mg base 8 "cheapest_of" ["table", "rows", "prices"] (spCheap K CT CO)) :
    Cal P w K mg base 9 "sure_found" ["table", "target", "prices"] (spFound K CT CO 1) := by
  refine D.cal fun f fd F => ?_
  refine F.ok scSure (fun vs H Q E h => ?_) (fun cdv A outer s H vs Q E hr h => ?_)
  · obtain ⟨X, t, va, vp, hs, ls, aim, fees, rfl, _⟩ := h
    rfl
  · obtain ⟨X, t, va, vp, hs, ls, aim, fees, rfl, hX, hT, ha, hp, ask, lf, okf, q⟩ := h
    refine ⟨_, pss_one (ps_ret (pe_cal Ch hr (pa_cons (pv 0) (pa_cons (pe_cal Bo hr (pa_cons (pv 0) (pa_cons (pv 1) (pa_cons pe_int pa_nil)))) (pa_cons (pv 2) pa_nil))))), ?_⟩
    have w3 := ask.w3
    have t3 := ask.t3
    refine ⟨_, rfl, _, rfl, _, rfl, X, t, va, hs, ls, aim, 1, rfl, hX, hT, ha, ask, by decide, fun H1 v1 s1 hv1 => ⟨_, rfl, X, t, v1, vp, hs, ls, mBoth ls aim hs.length 1, fees, rfl, hX.same s1, hT.same s1, hv1, hp.same (same_cut s1), by omega, by rw [both_len]; omega, ask.both 1, lf, okf, fun H2 v2 o s2 hO hC => q H2 v2 o (s1.trans s2) hO hC⟩⟩
theorem c_poss {CT CO : Addr} (D : DefAt K mg "possible_found" sPoss ["table", "target", "prices"]) (Bo : Cal P w K mg base 5 "both_rows" ["table", "target", "near"] (spBoth K CT)) (Ch : Cal P w K mg base 8 "cheapest_of" ["table", "rows", "prices"] (spCheap K CT CO)) :
    Cal P w K mg base 9 "possible_found" ["table", "target", "prices"] (spFound K CT CO 0) := by
  refine D.cal fun f fd F => ?_
  refine F.ok scPoss (fun vs H Q E h => ?_) (fun cdv A outer s H vs Q E hr h => ?_)
  · obtain ⟨X, t, va, vp, hs, ls, aim, fees, rfl, _⟩ := h
    rfl
  · obtain ⟨X, t, va, vp, hs, ls, aim, fees, rfl, hX, hT, ha, hp, ask, lf, okf, q⟩ := h
    refine ⟨_, pss_one (ps_ret (pe_cal Ch hr (pa_cons (pv 0) (pa_cons (pe_cal Bo hr (pa_cons (pv 0) (pa_cons (pv 1) (pa_cons pe_int pa_nil)))) (pa_cons (pv 2) pa_nil))))), ?_⟩
    have w3 := ask.w3
    have t3 := ask.t3
    refine ⟨_, rfl, _, rfl, _, rfl, X, t, va, hs, ls, aim, 0, rfl, hX, hT, ha, ask, by decide, fun H1 v1 s1 hv1 => ⟨_, rfl, X, t, v1, vp, hs, ls, mBoth ls aim hs.length 0, fees, rfl, hX.same s1, hT.same s1, hv1, hp.same (same_cut s1), by omega, by rw [both_len]; omega, ask.both 0, lf, okf, fun H2 v2 o s2 hO hC => q H2 v2 o (s1.trans s2) hO hC⟩⟩
abbrev sMixIn : Stmt := topS 83
theorem scMixIn : FnScope ["found"] ["found"] (defScope sMixIn) := ⟨rfl, rfl, rfl, by decide +kernel, rfl, by decide +kernel, by decide +kernel⟩
def spMixIn (K : PySem.W.Frag) (CO : Addr) : Sp := fun vs H Q _ => ∃ (X : List Addr) (v : V) (o : Option (List Rat × Rat)), vs = [v] ∧ OutAt K CO X H v o ∧ ∀ u, PointAt K X H u o → Q u H
theorem c_mixin {CO : Addr} (D : DefAt K mg "mix_in" sMixIn ["found"]) (T : OutC K CO) : Cal P w K mg base 1 "mix_in" ["found"] (spMixIn K CO) := by
  refine D.cal fun f fd F => ?_
  refine F.ok scMixIn (fun vs H Q E h => ?_) (fun cdv A outer s H vs Q E hr h => ?_)
  · obtain ⟨X, v, o, rfl, _⟩ := h
    rfl
  · obtain ⟨X, v, o, rfl, hO, q⟩ := h
    refine ⟨_, pss_one (ps_ret (pe_ifExp (pt_cmpR op_eq (pe_fldK K (pv 0)) pe_str (nomark _)) pe_non (pe_fldK K (pv 0)))), ?_⟩
    match o, hO with
    | none, hO =>
      obtain ⟨a, dx, g, rfl, ea⟩ := hO
      exact ⟨_, rfl, a, CO, dx, _, _, rfl, ea, T.cl, T.nW, rfl, rfl, true, rfl, iteT (q _ rfl)⟩
    | some (x, r), hO =>
      obtain ⟨a, dx, p, c, g, rfl, ea, hp, hc⟩ := hO
      have e : ¬ (V.str (Str.ofString "best") = V.str (Str.ofString "none")) := by decide +kernel
      exact ⟨_, rfl, a, CO, dx, _, _, rfl, ea, T.cl, T.nW, rfl, rfl, false, congrArg V.bl (decide_eq_false e), iteF ⟨_, rfl, a, CO, dx, _, _, rfl, ea, T.cl, T.nP, rfl, q _ hp⟩⟩
abbrev sCkQ : Stmt := topS 84
theorem scCkQ : FnScope ["table", "target"] ["table", "target"] (defScope sCkQ) := ⟨rfl, rfl, rfl, by decide +kernel, rfl, by decide +kernel, by decide +kernel⟩
def spCkQ (K : PySem.W.Frag) (C : Addr) : Sp := fun vs H Q _ => ∃ (X : List Addr) (t va : V) (hs : List Str) (ls : Lines) (aim : Aim), vs = [t, va] ∧ Xin X H ∧ TabAt K C X H t hs ls ∧ Dp K (cutH X H) va (dAim aim) ∧ Ask hs ls aim ∧ ∀ H', Same H H' → Q .non H'
theorem c_ckq {C : Addr} (D : DefAt K mg "check_question" sCkQ ["table", "target"]) (Ct : Cal P w K mg base 1 "check_table" ["value"] (spCkTab C)) (Ca : Cal P w K mg base 4 "check_target" ["table", "value"] (spCkTar K C)) : Cal P w K mg base 5 "check_question" ["table", "target"] (spCkQ K C) := by
  refine D.cal fun f fd F => ?_
  refine F.ok scCkQ (fun vs H Q E h => ?_) (fun cdv A outer s H vs Q E hr h => ?_)
  · obtain ⟨X, t, va, hs, ls, aim, rfl, _⟩ := h
    rfl
  · obtain ⟨X, t, va, hs, ls, aim, rfl, hX, hT, ha, ask, q⟩ := h
    refine ⟨_, pss_cons (ps_expr (pe_cal Ct hr (pa_cons (pv 0) pa_nil))) (pss_one (ps_expr (pe_cal Ca hr (pa_cons (pv 0) (pa_cons (pv 1) pa_nil))))), ?_⟩
    obtain ⟨a, dx, h, l, rfl, ea, hh, hl⟩ := id hT
    have w3 := ask.w3
    have al := ask.al
    exact ⟨_, rfl, a, dx, _, rfl, ea, _, rfl, _, rfl, X, _, va, hs, ls, aim, rfl, hX, hT, ha, al, by omega, ask.st, fun H2 s2 => q H2 s2⟩
abbrev sCkP : Stmt := topS 85
theorem scCkP : FnScope ["table", "target", "prices"] ["table", "target", "prices"] (defScope sCkP) := ⟨rfl, rfl, rfl, by decide +kernel, rfl, by decide +kernel, by decide +kernel⟩
def spCkP (K : PySem.W.Frag) (C : Addr) : Sp := fun vs H Q _ => ∃ (X : List Addr) (t va vp : V) (hs : List Str) (ls : Lines) (aim : Aim) (fees : List Int), vs = [t, va, vp] ∧ Xin X H ∧ TabAt K C X H t hs ls ∧ Dp K (cutH X H) va (dAim aim) ∧ Dp K (cutH X H) vp (iTup' fees) ∧ Ask hs ls aim ∧ fees.length = ls.length ∧ FeesOk fees ∧ ∀ H', Same H H' → Q .non H'
theorem c_ckp {C : Addr} (D : DefAt K mg "check_priced" sCkP ["table", "target", "prices"]) (Cq : Cal P w K mg base 5 "check_question" ["table", "target"] (spCkQ K C)) (Cp : Cal P w K mg base 3 "check_prices" ["table", "value"] (spCkPri K C)) : Cal P w K mg base 6 "check_priced" ["table", "target", "prices"] (spCkP K C) := by
  refine D.cal fun f fd F => ?_
  refine F.ok scCkP (fun vs H Q E h => ?_) (fun cdv A outer s H vs Q E hr h => ?_)
  · obtain ⟨X, t, va, vp, hs, ls, aim, fees, rfl, _⟩ := h
    rfl
  · obtain ⟨X, t, va, vp, hs, ls, aim, fees, rfl, hX, hT, ha, hp, ask, lf, okf, q⟩ := h
    refine ⟨_, pss_cons (ps_expr (pe_cal Cq hr (pa_cons (pv 0) (pa_cons (pv 1) pa_nil)))) (pss_one (ps_expr (pe_cal Cp hr (pa_cons (pv 0) (pa_cons (pv 2) pa_nil))))), ?_⟩
    have t3 := ask.t3
    exact ⟨_, rfl, _, rfl, X, t, va, hs, ls, aim, rfl, hX, hT, ha, ask, fun H1 s1 => ⟨_, rfl, _, rfl, X, t, vp, hs, ls, fees, rfl, hX.same s1, hT.same s1, hp.same (same_cut s1), lf, by omega, okf, fun H2 s2 => q H2 (s1.trans s2)⟩⟩
abbrev sPriceOf : Stmt := topS 86
theorem scPriceOf : FnScope ["table", "prices", "mix"] ["table", "prices", "mix"] (defScope sPriceOf) := ⟨rfl, rfl, rfl, by decide +kernel, rfl, by decide +kernel, by decide +kernel⟩
def spPriceOf (K : PySem.W.Frag) (C : Addr) : Sp := fun vs H Q _ => ∃ (X : List Addr) (t vp vm : V) (hs : List Str) (ls : Lines) (fees : List Int) (ps : List Rat), vs = [t, vp, vm] ∧ Xin X H ∧ TabAt K C X H t hs ls ∧ Dp K (cutH X H) vp (iTup' fees) ∧ Dp K (cutH X H) vm (fTup ps) ∧ ls.length ≤ 3 ∧ fees.length = ls.length ∧ FeesOk fees ∧
  ps.length = ls.length ∧ SzAll 400 ps ∧ (∀ q ∈ ps, 0 ≤ q) ∧ mTotal ps = 1 ∧ ∀ H' v, Same H H' → Fr K H' v (mWeighed ps fees) → Q v H'
theorem c_priceof {C : Addr} (D : DefAt K mg "price_of" sPriceOf ["table", "prices", "mix"]) (Ct : Cal P w K mg base 1 "check_table" ["value"] (spCkTab C)) (Cp : Cal P w K mg base 3 "check_prices" ["table", "value"] (spCkPri K C)) (Cm : Cal P w K mg base 6 "check_mix" ["table", "value"] (spCkMix K C)) (We : Cal P w K mg base 5 "weighed" ["parts", "numbers"] (spWeighed K)) :
    Cal P w K mg base 7 "price_of" ["table", "prices", "mix"] (spPriceOf K C) := by
  refine D.cal fun f fd F => ?_
  refine F.ok scPriceOf (fun vs H Q E h => ?_) (fun cdv A outer s H vs Q E hr h => ?_)
  · obtain ⟨X, t, vp, vm, hs, ls, fees, ps, rfl, _⟩ := h
    rfl
  · obtain ⟨X, t, vp, vm, hs, ls, fees, ps, rfl, hX, hT, hp, hm, t3, lf, okf, lps, hz, h0, h1, q⟩ := h
    refine ⟨_, pss_cons (ps_expr (pe_cal Ct hr (pa_cons (pv 0) pa_nil))) (pss_cons (ps_expr (pe_cal Cp hr (pa_cons (pv 0) (pa_cons (pv 1) pa_nil)))) (pss_cons (ps_expr (pe_cal Cm hr (pa_cons (pv 0) (pa_cons (pv 2) pa_nil)))) (pss_one (ps_ret (pe_cal We hr (pa_cons (pv 2) (pa_cons (pv 1) pa_nil))))))), ?_⟩
    obtain ⟨a, dx, h, l, rfl, ea, hh, hl⟩ := id hT
    have fz : ∀ n ∈ fees, n.natAbs < 2 ^ 20 := fun n hn => by
      have := okf n hn
      have e : (2 : Nat) ^ 20 = 1048576 := by decide
      omega
    refine ⟨_, rfl, a, dx, _, rfl, ea, _, rfl, _, rfl, X, _, vp, hs, ls, fees, rfl, hX, hT, hp, lf, by omega, okf, fun H1 s1 => ⟨_, rfl, _, rfl, X, _, vm, hs, ls, ps, rfl, hX.same s1, hT.same s1, hm.same (same_cut s1), lps, by omega, fun q hq => (hz q hq).mono (by decide), h0, h1, fun H2 s2 => ?_⟩⟩
    have s12 := s1.trans s2
    exact ⟨_, rfl, _, rfl, X, vm, vp, ps, fees, rfl, hX.same s12, hm.same (same_cut s12), hp.same (same_cut s12), by omega, by omega, hz, fz, fun H3 v3 s3 hv3 => q H3 v3 (s12.trans s3) hv3⟩
abbrev sSureMix : Stmt := topS 87
abbrev sPossMix : Stmt := topS 88
theorem scSureMix : FnScope ["table", "target"] ["table", "target"] (defScope sSureMix) := ⟨rfl, rfl, rfl, by decide +kernel, rfl, by decide +kernel, by decide +kernel⟩
theorem scPossMix : FnScope ["table", "target"] ["table", "target"] (defScope sPossMix) := ⟨rfl, rfl, rfl, by decide +kernel, rfl, by decide +kernel, by decide +kernel⟩
def spMixFor (K : PySem.W.Frag) (CT : Addr) (near : Nat) : Sp := fun vs H Q _ => ∃ (X : List Addr) (t va : V) (hs : List Str) (ls : Lines) (aim : Aim), vs = [t, va] ∧ Xin X H ∧ TabAt K CT X H t hs ls ∧ Dp K (cutH X H) va (dAim aim) ∧ Ask hs ls aim ∧
  ∀ H' v o, Same H H' → PointAt K X H' v o → CheapOut ls.length (mBoth ls aim hs.length near) (List.replicate ls.length 0) o → Q v H'
theorem zeros_ok (n : Nat) : FeesOk (List.replicate n 0) := fun k hk => by
  rw [(List.mem_replicate.mp hk).2]
  omega
theorem c_suremix {CT CO : Addr} (D : DefAt K mg "sure_mix" sSureMix ["table", "target"]) (Cq : Cal P w K mg base 5 "check_question" ["table", "target"] (spCkQ K CT)) (Mi : Cal P w K mg base 1 "mix_in" ["found"] (spMixIn K CO)) (Fo : Cal P w K mg base 9 "sure_found" ["table", "target", "prices"] (spFound K CT CO 1))
    (No : Cal P w K mg base 3 "no_prices" ["table"] (spNoP K CT)) : Cal P w K mg base 10 "sure_mix" ["table", "target"] (spMixFor K CT 1) := by
  refine D.cal fun f fd F => ?_
  refine F.ok scSureMix (fun vs H Q E h => ?_) (fun cdv A outer s H vs Q E hr h => ?_)
  · obtain ⟨X, t, va, hs, ls, aim, rfl, _⟩ := h
    rfl
  · obtain ⟨X, t, va, hs, ls, aim, rfl, hX, hT, ha, ask, q⟩ := h
    refine ⟨_, pss_cons (ps_expr (pe_cal Cq hr (pa_cons (pv 0) (pa_cons (pv 1) pa_nil)))) (pss_one (ps_ret (pe_cal Mi hr (pa_cons (pe_cal Fo hr (pa_cons (pv 0) (pa_cons (pv 1) (pa_cons (pe_cal No hr (pa_cons (pv 0) pa_nil)) pa_nil)))) pa_nil)))), ?_⟩
    have t3 := ask.t3
    have lo := ask.ln.lo
    exact ⟨_, rfl, _, rfl, X, t, va, hs, ls, aim, rfl, hX, hT, ha, ask, fun H1 s1 => ⟨_, rfl, _, rfl, _, rfl, X, t, hs, ls, rfl, hX.same s1, hT.same s1, lo, by omega, fun H2 v2 s2 hv2 =>
      ⟨X, t, va, v2, hs, ls, aim, _, rfl, hX.same (s1.trans s2), hT.same (s1.trans s2), ha.same (same_cut (s1.trans s2)), hv2, ask, List.length_replicate, zeros_ok _, fun H3 v3 o s3 hO hC => ⟨X, v3, o, rfl, hO, fun u hu => q H3 u o (s1.trans (s2.trans s3)) hu hC⟩⟩⟩⟩
theorem c_possmix {CT CO : Addr} (D : DefAt K mg "possible_mix" sPossMix ["table", "target"]) (Cq : Cal P w K mg base 5 "check_question" ["table", "target"] (spCkQ K CT)) (Mi : Cal P w K mg base 1 "mix_in" ["found"] (spMixIn K CO)) (Fo : Cal P w K mg base 9 "possible_found" ["table", "target", "prices"] (spFound K CT CO 0))
    (No : Cal P w K mg base 3 "no_prices" ["table"] (spNoP K CT)) : Cal P w K mg base 10 "possible_mix" ["table", "target"] (spMixFor K CT 0) := by
  refine D.cal fun f fd F => ?_
  refine F.ok scPossMix (fun vs H Q E h => ?_) (fun cdv A outer s H vs Q E hr h => ?_)
  · obtain ⟨X, t, va, hs, ls, aim, rfl, _⟩ := h
    rfl
  · obtain ⟨X, t, va, hs, ls, aim, rfl, hX, hT, ha, ask, q⟩ := h
    refine ⟨_, pss_cons (ps_expr (pe_cal Cq hr (pa_cons (pv 0) (pa_cons (pv 1) pa_nil)))) (pss_one (ps_ret (pe_cal Mi hr (pa_cons (pe_cal Fo hr (pa_cons (pv 0) (pa_cons (pv 1) (pa_cons (pe_cal No hr (pa_cons (pv 0) pa_nil)) pa_nil)))) pa_nil)))), ?_⟩
    have t3 := ask.t3
    have lo := ask.ln.lo
    exact ⟨_, rfl, _, rfl, X, t, va, hs, ls, aim, rfl, hX, hT, ha, ask, fun H1 s1 => ⟨_, rfl, _, rfl, _, rfl, X, t, hs, ls, rfl, hX.same s1, hT.same s1, lo, by omega, fun H2 v2 s2 hv2 =>
      ⟨X, t, va, v2, hs, ls, aim, _, rfl, hX.same (s1.trans s2), hT.same (s1.trans s2), ha.same (same_cut (s1.trans s2)), hv2, ask, List.length_replicate, zeros_ok _, fun H3 v3 o s3 hO hC => ⟨X, v3, o, rfl, hO, fun u hu => q H3 u o (s1.trans (s2.trans s3)) hu hC⟩⟩⟩⟩
abbrev sBest : Stmt := topS 91
abbrev sSurePrice : Stmt := topS 92
theorem scBest : FnScope ["table", "target", "prices"] ["table", "target", "prices"] (defScope sBest) := ⟨rfl, rfl, rfl, by decide +kernel, rfl, by decide +kernel, by decide +kernel⟩
theorem scSurePrice : FnScope ["table", "target", "prices"] ["table", "target", "prices"] (defScope sSurePrice) := ⟨rfl, rfl, rfl, by decide +kernel, rfl, by decide +kernel, by decide +kernel⟩
def spPriced (K : PySem.W.Frag) (CT : Addr) (near : Nat) : Sp := fun vs H Q _ => ∃ (X : List Addr) (t va vp : V) (hs : List Str) (ls : Lines) (aim : Aim) (fees : List Int), vs = [t, va, vp] ∧ Xin X H ∧ TabAt K CT X H t hs ls ∧ Dp K (cutH X H) va (dAim aim) ∧ Dp K (cutH X H) vp (iTup' fees) ∧ Ask hs ls aim ∧
  fees.length = ls.length ∧ FeesOk fees ∧ ∀ H' v o, Same H H' → CostAt K H' v o → CheapOut ls.length (mBoth ls aim hs.length near) fees o → Q v H'
theorem cost_read {CO : Addr} {X : List Addr} {H : Hp} {v : V} {o : Option (List Rat × Rat)} {σ : L2.St} {te : TE} {Q : VK} (T : OutC K CO) (hO : OutAt K CO X H v o) (q : ∀ u, CostAt K H u o → Q u H) : (fun x H1 => ∃ a C dx fs u, x = V.ref a ∧ H1 a = some (.ins C dx fs) ∧ Cls K C ∧ NoAttr K C "cost" ∧ fs.lookup ("cost" : Str) = some u ∧ Q u H1) v H := by
  match o, hO with
  | none, hO =>
    obtain ⟨a, dx, g, rfl, ea⟩ := hO
    exact ⟨a, CO, dx, _, _, rfl, ea, T.cl, T.nC, rfl, q _ rfl⟩
  | some (x, r), hO =>
    obtain ⟨a, dx, p, c, g, rfl, ea, hp, hc⟩ := hO
    exact ⟨a, CO, dx, _, _, rfl, ea, T.cl, T.nC, rfl, q _ hc⟩
theorem f_best {CT CO : Addr} {f : Addr} {fd : FuncData} (F : Fun K "best_price" "best_price" sBest f fd) (T : OutC K CO) (Cp : Cal P w K mg base 6 "check_priced" ["table", "target", "prices"] (spCkP K CT)) (Fo : Cal P w K mg base 9 "possible_found" ["table", "target", "prices"] (spFound K CT CO 0)) :
    FnOk P w K mg base CX0 10 f fd ["table", "target", "prices"] (spPriced K CT 0) := by
  refine F.ok scBest (fun vs H Q E h => ?_) (fun cdv A outer s H vs Q E hr h => ?_)
  · obtain ⟨X, t, va, vp, hs, ls, aim, fees, rfl, _⟩ := h
    rfl
  · obtain ⟨X, t, va, vp, hs, ls, aim, fees, rfl, hX, hT, ha, hp, ask, lf, okf, q⟩ := h
    refine ⟨_, pss_cons (ps_expr (pe_cal Cp hr (pa_cons (pv 0) (pa_cons (pv 1) (pa_cons (pv 2) pa_nil))))) (pss_one (ps_ret (pe_fldK K (pe_cal Fo hr (pa_cons (pv 0) (pa_cons (pv 1) (pa_cons (pv 2) pa_nil))))))), ?_⟩
    refine ⟨_, rfl, _, rfl, _, rfl, X, t, va, vp, hs, ls, aim, fees, rfl, hX, hT, ha, hp, ask, lf, okf, fun H1 s1 => ⟨_, rfl, _, rfl, _, rfl, X, t, va, vp, hs, ls, aim, fees, rfl, hX.same s1, hT.same s1, ha.same (same_cut s1), hp.same (same_cut s1), ask, lf, okf, fun H2 v2 o s2 hO hC => ?_⟩⟩
    exact cost_read (σ := []) (te := tC .non) T hO fun u hu => q H2 u o (s1.trans s2) hu hC
theorem c_best {CT CO : Addr} (D : DefAt K mg "best_price" sBest ["table", "target", "prices"]) (T : OutC K CO) (Cp : Cal P w K mg base 6 "check_priced" ["table", "target", "prices"] (spCkP K CT)) (Fo : Cal P w K mg base 9 "possible_found" ["table", "target", "prices"] (spFound K CT CO 0)) :
    Cal P w K mg base 10 "best_price" ["table", "target", "prices"] (spPriced K CT 0) := D.cal fun f fd F => f_best F T Cp Fo
theorem f_sureprice {CT CO : Addr} {f : Addr} {fd : FuncData} (F : Fun K "sure_price" "sure_price" sSurePrice f fd) (T : OutC K CO) (Cp : Cal P w K mg base 6 "check_priced" ["table", "target", "prices"] (spCkP K CT)) (Fo : Cal P w K mg base 9 "sure_found" ["table", "target", "prices"] (spFound K CT CO 1)) :
    FnOk P w K mg base CX0 10 f fd ["table", "target", "prices"] (spPriced K CT 1) := by
  refine F.ok scSurePrice (fun vs H Q E h => ?_) (fun cdv A outer s H vs Q E hr h => ?_)
  · obtain ⟨X, t, va, vp, hs, ls, aim, fees, rfl, _⟩ := h
    rfl
  · obtain ⟨X, t, va, vp, hs, ls, aim, fees, rfl, hX, hT, ha, hp, ask, lf, okf, q⟩ := h
    refine ⟨_, pss_cons (ps_expr (pe_cal Cp hr (pa_cons (pv 0) (pa_cons (pv 1) (pa_cons (pv 2) pa_nil))))) (pss_one (ps_ret (pe_fldK K (pe_cal Fo hr (pa_cons (pv 0) (pa_cons (pv 1) (pa_cons (pv 2) pa_nil))))))), ?_⟩
    refine ⟨_, rfl, _, rfl, _, rfl, X, t, va, vp, hs, ls, aim, fees, rfl, hX, hT, ha, hp, ask, lf, okf, fun H1 s1 => ⟨_, rfl, _, rfl, _, rfl, X, t, va, vp, hs, ls, aim, fees, rfl, hX.same s1, hT.same s1, ha.same (same_cut s1), hp.same (same_cut s1), ask, lf, okf, fun H2 v2 o s2 hO hC => ?_⟩⟩
    exact cost_read (σ := []) (te := tC .non) T hO fun u hu => q H2 u o (s1.trans s2) hu hC
theorem c_sureprice {CT CO : Addr} (D : DefAt K mg "sure_price" sSurePrice ["table", "target", "prices"]) (T : OutC K CO) (Cp : Cal P w K mg base 6 "check_priced" ["table", "target", "prices"] (spCkP K CT)) (Fo : Cal P w K mg base 9 "sure_found" ["table", "target", "prices"] (spFound K CT CO 1)) :
    Cal P w K mg base 10 "sure_price" ["table", "target", "prices"] (spPriced K CT 1) := D.cal fun f fd F => f_sureprice F T Cp Fo
end
end Cs
set_option Elab.async false
set_option linter.all false
set_option maxRecDepth 100000
set_option maxHeartbeats 8000000
/-! all_corners, dearest_of -/
namespace Cs
open PySem PySem.Spec PyProof.Rows L2
theorem mSigns_row_len : ∀ (n : Nat) (r : List Int), r ∈ mSigns n → r.length = n := by
  intro n
  induction n with
  | zero =>
    intro r hr
    rcases List.mem_singleton.mp hr with rfl
    rfl
  | succ n ih =>
    intro r hr
    obtain ⟨r0, h0, h1⟩ := List.mem_flatMap.mp hr
    have := ih r0 h0
    rcases List.mem_cons.mp h1 with rfl | h1
    · simp [this]
    · rcases List.mem_singleton.mp h1 with rfl
      simp [this]
/-- a list of pairs, each with what a corner told -/
def OutsAt (K : PySem.W.Frag) (CO : Addr) (X : List Addr) (H : Hp) (acc : List V) (os : List (Option (List Rat × Rat))) : Prop :=
  acc.length = os.length ∧ ∀ (j : Nat) (o : Option (List Rat × Rat)), os[j]? = some o → ∃ (T : Addr) (sv ov : V), acc[j]? = some (V.ref T) ∧ H T = some (.tup [sv, ov]) ∧ OutAt K CO X H ov o
theorem OutsAt.same {K : PySem.W.Frag} {CO : Addr} {X : List Addr} {H H' : Hp} {acc : List V} {os : List (Option (List Rat × Rat))} (h : OutsAt K CO X H acc os) (s : Same H H') : OutsAt K CO X H' acc os := ⟨h.1, fun j o e => by
  obtain ⟨T, sv, ov, h1, h2, h3⟩ := h.2 j o e
  exact ⟨T, sv, ov, h1, s _ _ h2, h3.same s⟩⟩
theorem OutAt.updD {K : PySem.W.Frag} {CO : Addr} {X : List Addr} {H : Hp} {v : V} {o : Option (List Rat × Rat)} {D : Addr} {xs ys : List V} (h : OutAt K CO (D :: X) H v o) (e : H D = some (.lst xs)) : OutAt K CO (D :: X) (upd H D (.lst ys)) v o := by
  have cutD : cutH (D :: X) (upd H D (.lst ys)) = cutH (D :: X) H := cut_in List.mem_cons_self
  have ne : ∀ {a : Addr} {u : HO}, H a = some u → (∀ zs, u ≠ .lst zs) → a ≠ D := fun h n z => by
    rw [z, e] at h
    exact n _ (Option.some.inj h).symm
  match o, h with
  | none, h =>
    obtain ⟨a, dx, g, e1, ea⟩ := h
    exact ⟨a, dx, g, e1, by rw [upd_ne (ne ea (fun _ z => nomatch z))]; exact ea⟩
  | some (x, q), h =>
    obtain ⟨a, dx, p, c, g, e1, ea, hp, hc⟩ := h
    refine ⟨a, dx, p, c, g, e1, by rw [upd_ne (ne ea (fun _ z => nomatch z))]; exact ea, by rw [cutD]; exact hp, ?_⟩
    have h1 : Fr K (cutH [D] H) c q := hc.cut (fun b hb => by
      rcases List.mem_singleton.mp hb with rfl
      exact ⟨_, e⟩)
    have h2 : cutH [D] (upd H D (.lst ys)) = cutH [D] H := cut_in List.mem_cons_self
    rw [← h2] at h1
    exact h1.same cut_same
theorem OutAt.less {K : PySem.W.Frag} {CO : Addr} {X : List Addr} {H : Hp} {v : V} {o : Option (List Rat × Rat)} {D : Addr} (h : OutAt K CO (D :: X) H v o) : OutAt K CO X H v o := by
  match o, h with
  | none, h => exact h
  | some (x, q), h =>
    obtain ⟨a, dx, p, c, g, e1, ea, hp, hc⟩ := h
    exact ⟨a, dx, p, c, g, e1, ea, hp.same cut_more, hc⟩
section
variable {P : Program} {w : World} {K : PySem.W.Frag} {mg : Str → Option Value} {base : Heap}
abbrev sAllC : Stmt := topS 81
abbrev nAllC : List Str := ["table", "target", "prices", "signs"]
theorem scAllC : FnScope nAllC ["table", "target", "prices"] (defScope sAllC) := ⟨rfl, rfl, rfl, by decide +kernel, rfl, by decide +kernel, by decide +kernel⟩
/-- what the corners told, in the order of the signs -/
def CornersOut (ls : Lines) (aim : Aim) (n : Nat) (fees : List Int) (os : List (Option (List Rat × Rat))) : Prop :=
  os.length = 2 ^ n ∧ ∀ (j : Nat) (o : Option (List Rat × Rat)) (sg : List Int), os[j]? = some o → (mSigns n)[j]? = some sg → CheapOut ls.length (mCorner ls aim sg) fees o
def spAllC (K : PySem.W.Frag) (CT CO : Addr) : Sp := fun vs H Q _ => ∃ (X : List Addr) (t va vp : V) (hs : List Str) (ls : Lines) (aim : Aim) (fees : List Int), vs = [t, va, vp] ∧ Xin X H ∧ TabAt K CT X H t hs ls ∧ Dp K (cutH X H) va (dAim aim) ∧ Dp K (cutH X H) vp (iTup' fees) ∧ Ask hs ls aim ∧
  fees.length = ls.length ∧ FeesOk fees ∧ ∀ H' D acc os, Same H H' → H' D = some (.lst acc) → OutsAt K CO X H' acc os → CornersOut ls aim hs.length fees os → Q (.ref D) H'
theorem corner_len (ls : Lines) (aim : Aim) (sg : List Int) : (mCorner ls aim sg).length = sg.length := List.length_mapIdx
theorem c_allc {CT CO : Addr} (D : DefAt K mg "all_corners" sAllC ["table", "target", "prices"]) (T : TabC K CT) (B : Bn mg) (Co : PCal P w K mg base 1 CT "columns" "heads") (Si : Cal P w K mg base 1 "signs_of" ["many"] (spSigns K)) (Cr : Cal P w K mg base 5 "corner_rows" ["table", "target", "signs"] (spCorner K CT))
    (Ch : Cal P w K mg base 8 "cheapest_of" ["table", "rows", "prices"] (spCheap K CT CO)) : Cal P w K mg base 9 "all_corners" ["table", "target", "prices"] (spAllC K CT CO) := by
  refine D.cal fun f fd F => ?_
  refine F.ok scAllC (fun vs H Q E h => ?_) (fun cdv A outer s H vs Q E hr h => ?_)
  · obtain ⟨X, t, va, vp, hs, ls, aim, fees, rfl, _⟩ := h
    rfl
  · obtain ⟨X, t, va, vp, hs, ls, aim, fees, rfl, hX, hT, ha, hp, ask, lf, okf, q⟩ := h
    refine ⟨_, pss_one (ps_ret (pe_lc (own := [("signs", 3)]) (g := gName 3) (tt := tYes) rfl scAllC.nd (pi_list (pe_cal Si hr (pa_cons (pe_callB call_len_seq (by rfl) B.len PySem.boot_len (pa_cons (pe_propC Co T.cl hr (pv 0)) pa_nil)) pa_nil))) (blkOk_by (own := [("signs", 3)]) (N := nAllC) (sc := defScope sAllC) (by decide +kernel))
      (fun _ _ _ _ _ => pg_name (i := 3) scAllC.nd rfl (.inl rfl)) (fun _ _ _ _ _ => pts_nil)
      (fun _ _ _ _ _ => pe_tup (pa_cons (pv 3) (pa_cons (pe_cal Ch hr (pa_cons (pv 0) (pa_cons (pe_cal Cr hr (pa_cons (pv 0) (pa_cons (pv 1) (pa_cons (pv 3) pa_nil)))) (pa_cons (pv 2) pa_nil)))) pa_nil))))), ?_⟩
    obtain ⟨a, dx, h, l, rfl, ea, hh, hl⟩ := id hT
    obtain ⟨ah, xs, rfl, hsh, hdh⟩ := hh.tuple
    have lx : xs.length = hs.length := by rw [hdh.length, List.length_map]
    have w3 := ask.w3
    have t3 := ask.t3
    refine ⟨_, rfl, a, dx, _, rfl, ea, a, dx, _, _, rfl, ea, rfl, ah, xs, rfl, .inr (cut_same.tup hsh), X, hs.length, by rw [lx]; rfl, hX, by omega, fun H1 v1 s1 hv1 => ?_⟩
    obtain ⟨a1, ys, rfl, hs1, hd1⟩ := hv1.list
    have ly : ys.length = 2 ^ hs.length := by rw [hd1.length, List.length_map, mSigns_len]
    have hs10 := cut_same.seq hs1
    have p8 : 2 ^ hs.length ≤ 2 ^ 3 := Nat.pow_le_pow_right (by decide) w3
    refine ⟨a1, rfl, ⟨_, hs10⟩, fun D1 hD1 => ?_⟩
    have hX1 := hX.same s1
    have nD1 : D1 ∉ X := hX1.new hD1
    refine lc_it walk_list (fun i H2 => Same H1 H2 ∧ ∃ acc os, H2 D1 = some (.lst acc) ∧ acc.length = i ∧ OutsAt K CO (D1 :: X) H2 acc os ∧ ∀ (j : Nat) (o : Option (List Rat × Rat)) (sg : List Int), os[j]? = some o → (mSigns hs.length)[j]? = some sg → CheapOut ls.length (mCorner ls aim sg) fees o)
      ⟨Same.new hD1, [], [], upd_same, rfl, ⟨rfl, fun j o e => by simp at e⟩, fun j o sg e => by simp at e⟩ (fun i H2 _ h => h.1.seq hs10) ?_ ?_
    · rintro i x H2 H3 hi ⟨s2, acc, os, eacc, lacc, hout, hc⟩ ⟨rfl, ex⟩
      obtain ⟨d, ed, hx⟩ := hd1.at ex
      rw [List.getElem?_map] at ed
      cases er : (mSigns hs.length)[i]? with
      | none =>
        rw [er] at ed
        cases ed
      | some sg =>
        rw [er] at ed
        cases ed
        have sc : Same (cutH X H1) (cutH (D1 :: X) H3) := fun b o h => by
          obtain ⟨h1, h2⟩ := cut_at h
          refine cut_mk (s2 _ _ h1) fun hb => ?_
          rcases List.mem_cons.mp hb with rfl | hb
          · rw [hD1] at h1
            cases h1
          · exact h2 hb
        have sc0 : Same (cutH X H) (cutH (D1 :: X) H3) := (same_cut s1).trans sc
        have hX3 : Xin (D1 :: X) H3 := (hX1.same s2).cons eacc
        have lsg := mSigns_row_len _ sg (List.mem_of_getElem? er)
        have hT3 : TabAt K CT (D1 :: X) H3 (.ref a) hs ls := ⟨a, dx, _, l, rfl, s2 _ _ (s1 _ _ ea), hh.same sc0, hl.same sc0⟩
        refine ⟨rfl, _, rfl, _, rfl, _, rfl, _, rfl, _, rfl, D1 :: X, _, va, x, hs, ls, aim, sg, rfl, hX3, hT3, ha.same sc0, hx.same sc, ask, lsg, fun H4 v4 s4 hv4 => ?_⟩
        refine ⟨_, rfl, D1 :: X, _, v4, vp, hs, ls, mCorner ls aim sg, fees, rfl, hX3.same s4, hT3.same s4, hv4, (hp.same sc0).same (same_cut s4), by omega, by rw [corner_len]; omega, ask.corner lsg, lf, okf, fun H5 v5 o s5 hO hC => ⟨(by show 2 ≤ sizeLine; decide), fun p np => ?_⟩⟩
        have s6 := Same.new (o := .tup [x, v5]) np
        have s36 := s4.trans (s5.trans s6)
        have e6 := s36 _ _ eacc
        have los : os.length = i := by rw [← hout.1, lacc]
        refine ⟨acc, e6, small1000 (by omega), fun b u e => ?_, acc ++ [.ref p], os ++ [o], upd_same, by rw [List.length_append, lacc]; rfl, ⟨by rw [List.length_append, List.length_append, hout.1]; rfl, fun j o' e => ?_⟩, fun j o' sg' e e' => ?_⟩
        · rw [upd_ne (ne_of_none e hD1)]
          exact s36 _ _ (s2 b u e)
        · have neT : ∀ {T : Addr} {zs : List V}, (upd H5 p (.tup [x, v5])) T = some (.tup zs) → T ≠ D1 := fun h z => by
            rw [z, e6] at h
            cases h
          by_cases hj : j < os.length
          · rw [List.getElem?_append_left hj] at e
            obtain ⟨T0, sv, ov, h1, h2, h3⟩ := hout.2 j o' e
            have h2' := s36 _ _ h2
            refine ⟨T0, sv, ov, by rw [List.getElem?_append_left (by rw [hout.1]; exact hj)]; exact h1, ?_, (h3.same s36).updD e6⟩
            rw [upd_ne (neT h2')]
            exact h2'
          · have hj2 : j = os.length := by
              have := (List.getElem?_eq_some_iff.mp e).1
              rw [List.length_append] at this
              have : j < os.length + 1 := this
              omega
            subst hj2
            rw [List.getElem?_append_right (Nat.le_refl _), Nat.sub_self] at e
            cases e
            refine ⟨p, x, v5, ?_, ?_, (hO.same s6).updD e6⟩
            · rw [List.getElem?_append_right (by rw [hout.1]; exact Nat.le_refl _), hout.1, Nat.sub_self]
              rfl
            · rw [upd_ne (neT upd_same)]
              exact upd_same
        · by_cases hj : j < os.length
          · rw [List.getElem?_append_left hj] at e
            exact hc j o' sg' e e'
          · have hj2 : j = os.length := by
              have := (List.getElem?_eq_some_iff.mp e).1
              rw [List.length_append] at this
              have : j < os.length + 1 := this
              omega
            subst hj2
            rw [List.getElem?_append_right (Nat.le_refl _), Nat.sub_self] at e
            cases e
            rw [los, er] at e'
            cases e'
            exact hC
    · rintro H2 ⟨s2, acc, os, eacc, lacc, hout, hc⟩
      refine q H2 D1 acc os (s1.trans s2) eacc ⟨hout.1, fun j o e => ?_⟩ ⟨by rw [← hout.1, lacc, ly], hc⟩
      obtain ⟨T0, sv, ov, h1, h2, h3⟩ := hout.2 j o e
      exact ⟨T0, sv, ov, h1, h2, h3.less⟩
/-! ### dearest_of -/
abbrev sDear : Stmt := topS 82
abbrev nDear : List Str := ["table", "target", "prices", "best", "signs", "found"]
theorem scDear : FnScope nDear ["table", "target", "prices"] (defScope sDear) := ⟨rfl, rfl, rfl, by decide +kernel, rfl, by decide +kernel, by decide +kernel⟩
/-- some corner is not served -/
def NoCorner (ls : Lines) (aim : Aim) (n : Nat) (fees : List Int) : Prop := ∃ sg ∈ mSigns n, CheapOut ls.length (mCorner ls aim sg) fees none
/-- q is the greatest of the corners' least prices -/
def TopCorner (ls : Lines) (aim : Aim) (n : Nat) (fees : List Int) (q : Rat) : Prop :=
  (∃ sg ∈ mSigns n, ∃ x, CheapOut ls.length (mCorner ls aim sg) fees (some (x, q))) ∧ ∀ sg ∈ mSigns n, ∃ x q', CheapOut ls.length (mCorner ls aim sg) fees (some (x, q')) ∧ q' ≤ q
def DearAt (K : PySem.W.Frag) (CO : Addr) (X : List Addr) (H : Hp) (ls : Lines) (aim : Aim) (n : Nat) (fees : List Int) (v : V) : Prop :=
  (v = .non ∧ NoCorner ls aim n fees) ∨ ∃ T sv ov x q, v = .ref T ∧ H T = some (.tup [sv, ov]) ∧ OutAt K CO X H ov (some (x, q)) ∧ TopCorner ls aim n fees q
def spDear (K : PySem.W.Frag) (CT CO : Addr) : Sp := fun vs H Q _ => ∃ (X : List Addr) (t va vp : V) (hs : List Str) (ls : Lines) (aim : Aim) (fees : List Int), vs = [t, va, vp] ∧ Xin X H ∧ TabAt K CT X H t hs ls ∧ Dp K (cutH X H) va (dAim aim) ∧ Dp K (cutH X H) vp (iTup' fees) ∧ Ask hs ls aim ∧
  fees.length = ls.length ∧ FeesOk fees ∧ ∀ H' v, Same H H' → DearAt K CO X H' ls aim hs.length fees v → Q v H'
theorem c_dear {CT CO : Addr} (D : DefAt K mg "dearest_of" sDear ["table", "target", "prices"]) (T : OutC K CO) (Al : Cal P w K mg base 9 "all_corners" ["table", "target", "prices"] (spAllC K CT CO)) (Ab : Cal P w K mg base 1 "is_above" ["one", "other"] (spAbove K)) :
    Cal P w K mg base 10 "dearest_of" ["table", "target", "prices"] (spDear K CT CO) := by
  refine D.cal fun f fd F => ?_
  refine F.ok scDear (fun vs H Q E h => ?_) (fun cdv A outer s H vs Q E hr h => ?_)
  · obtain ⟨X, t, va, vp, hs, ls, aim, fees, rfl, _⟩ := h
    rfl
  · obtain ⟨X, t, va, vp, hs, ls, aim, fees, rfl, hX, hT, ha, hp, ask, lf, okf, q⟩ := h
    refine ⟨_, pss_cons (ps_set (i := 3) scDear.nd rfl (.inl rfl) pe_non) (pss_cons (ps_for PassesOwn.never rfl (pi_list (pe_cal Al hr (pa_cons (pv 0) (pa_cons (pv 1) (pa_cons (pv 2) pa_nil))))) (pg_tup rfl (pgs_cons (pg_name (i := 4) scDear.nd rfl (.inl rfl)) (pgs_cons (pg_name (i := 5) scDear.nd rfl (.inl rfl)) pgs_nil)))
        (pss_cons (ps_if (pt_cmpR op_eq (pe_fldK K (pv 5)) pe_str (nomark _)) (pss_one (ps_ret pe_non)) pss_nil)
        (pss_one (ps_if (pw_or (pt_cmpR op_isN (pv 3) pe_non (nomark _)) (pw_or1 (pt_val (pe_cal Ab hr (pa_cons (pe_fldK K (pv 5)) (pa_cons (pe_fldK K (pe_ix (ix_tupK K) (pv 3) pe_int (fun _ _ => rfl))) pa_nil)))))).pt (pss_one (ps_set (i := 3) scDear.nd rfl (.inl rfl) (pe_tup (pa_cons (pv 4) (pa_cons (pv 5) pa_nil))))) pss_nil))))
      (pss_one (ps_ret (pv 3)))), ?_⟩
    refine ⟨_, rfl, _, rfl, _, rfl, X, t, va, vp, hs, ls, aim, fees, rfl, hX, hT, ha, hp, ask, lf, okf, fun H1 D1 acc os s1 eacc hout hco => ⟨D1, rfl, ⟨_, .inl (.inl eacc)⟩, ?_⟩⟩
    have lacc : acc.length = os.length := hout.1
    refine for_it walk_list (fun i σ H2 => ∃ vb f4 f5, σ = [some t, some va, some vp, some vb, f4, f5] ∧ Same H1 H2 ∧ (∀ j, j < i → ∃ x q', os[j]? = some (some (x, q'))) ∧
      ((i = 0 ∧ vb = .non) ∨ ∃ T sv ov x q, vb = .ref T ∧ H2 T = some (.tup [sv, ov]) ∧ OutAt K CO X H2 ov (some (x, q)) ∧ (∃ j, j < i ∧ os[j]? = some (some (x, q))) ∧ ∀ j x' q', j < i → os[j]? = some (some (x', q')) → q' ≤ q))
      ⟨_, none, none, rfl, Same.refl _, fun j hj => by omega, .inl ⟨rfl, rfl⟩⟩ (fun i σ H2 _ ⟨_, _, _, _, s2, _⟩ => s2.seq (.inl (.inl eacc))) ?_ ?_
    · rintro i x σ H2 H3 hi ⟨vb, f4, f5, rfl, s2, hall, hvb⟩ ⟨rfl, ex⟩
      have hio : i < os.length := by omega
      have eo : os[i]? = some os[i] := List.getElem?_eq_getElem hio
      obtain ⟨T0, sv, ov, h1, h2, h3⟩ := hout.2 i _ eo
      rw [ex] at h1
      cases h1
      have h2' := s2 _ _ h2
      have h3' := h3.same s2
      have hsg : i < (mSigns hs.length).length := by rw [mSigns_len, ← hco.1]; exact hio
      have esg : (mSigns hs.length)[i]? = some (mSigns hs.length)[i] := List.getElem?_eq_getElem hsg
      have hC := hco.2 i _ _ eo esg
      refine ⟨T0, _, rfl, .inl (.inl h2'), rfl, _, _, rfl, _, _, rfl, rfl, ?_⟩
      generalize os[i] = o at eo h3' hC
      match o, eo, h3', hC with
      | none, eo, h3', hC =>
        obtain ⟨a, dx, g, rfl, ea⟩ := h3'
        refine ⟨_, rfl, a, CO, dx, _, _, rfl, ea, T.cl, T.nW, rfl, rfl, true, rfl, iteT ?_⟩
        exact q H3 _ (s1.trans s2) (.inl ⟨rfl, _, List.mem_of_getElem? esg, hC⟩)
      | some (x1, q1), eo, h3', hC =>
        have e : ¬ (V.str (Str.ofString "best") = V.str (Str.ofString "none")) := by decide +kernel
        obtain ⟨a, dx, p, c, g, rfl, ea, hpt, hct⟩ := id h3'
        refine ⟨_, rfl, a, CO, dx, _, _, rfl, ea, T.cl, T.nW, rfl, rfl, false, congrArg V.bl (decide_eq_false e), iteF ?_⟩
        have zq1 : Sz 2000 q1 := hC.2.2.mono (by decide)
        have hall' : ∀ j, j < i + 1 → ∃ x q', os[j]? = some (some (x, q')) := fun j hj => by
          by_cases hji : j = i
          · rw [hji]
            exact ⟨_, _, eo⟩
          · exact hall j (by omega)
        have newBest : ∀ p, H3 p = none → (∀ j x' q', j < i → os[j]? = some (some (x', q')) → q' ≤ q1) → ∃ vb f4 f5, [some t, some va, some vp, some (V.ref p), some sv, some (V.ref a)] = [some t, some va, some vp, some vb, f4, f5] ∧ Same H1 (upd H3 p (.tup [sv, .ref a])) ∧ (∀ j, j < i + 1 → ∃ x q', os[j]? = some (some (x, q'))) ∧
            ((i + 1 = 0 ∧ vb = .non) ∨ ∃ T sw ov x q, vb = .ref T ∧ (upd H3 p (.tup [sv, .ref a])) T = some (.tup [sw, ov]) ∧ OutAt K CO X (upd H3 p (.tup [sv, .ref a])) ov (some (x, q)) ∧ (∃ j, j < i + 1 ∧ os[j]? = some (some (x, q))) ∧ ∀ j x' q', j < i + 1 → os[j]? = some (some (x', q')) → q' ≤ q) := fun p np hle => by
          have s3 := Same.new (o := .tup [sv, .ref a]) np
          refine ⟨_, _, _, rfl, s2.trans s3, hall', .inr ⟨p, sv, .ref a, x1, q1, rfl, upd_same, h3'.same s3, ⟨i, by omega, eo⟩, fun j x' q' hj e => ?_⟩⟩
          by_cases hji : j = i
          · rw [hji, eo] at e
            cases e
            exact Rat.le_refl
          · exact hle j x' q' (by omega) e
        rcases hvb with ⟨rfl, rfl⟩ | ⟨T1, sv1, ov1, x2, q2, rfl, g2, g3, ⟨j0, hj0, ej0⟩, hmax⟩
        · refine ⟨_, rfl, rfl, true, rfl, iteT (iteT ⟨_, rfl, _, rfl, (by show 2 ≤ sizeLine; decide), fun p np => ?_⟩)⟩
          obtain ⟨vb, g4, g5, e, r⟩ := newBest p np fun j x' q' hj e => by omega
          exact ⟨vb, g4, g5, e, r⟩
        · obtain ⟨a', dx', p', c', g', rfl, ea', hpt', hct'⟩ := id g3
          obtain ⟨sgj, esgj⟩ : ∃ sg, (mSigns hs.length)[j0]? = some sg := ⟨_, List.getElem?_eq_getElem (by rw [mSigns_len, ← hco.1]; omega)⟩
          have zq2 : Sz 2000 q2 := (hco.2 j0 _ sgj ej0 esgj).2.2.mono (by decide)
          refine ⟨_, rfl, rfl, false, rfl, iteF ⟨_, rfl, a, CO, dx, _, _, rfl, ea, T.cl, T.nC, rfl, _, rfl, T1, _, _, _, rfl, rfl, .inl (.inl g2), atI_nat (j := 1) rfl, a', CO, dx', _, _, rfl, ea', T.cl, T.nC, rfl, c, c', q1, q2, rfl, hct, hct', zq1, zq2, _, rfl, ite2 (fun hlt => ?_) (fun hlt => ?_)⟩⟩
          · have hlt : q2 < q1 := of_decide_eq_true hlt
            refine ⟨_, rfl, _, rfl, (by show 2 ≤ sizeLine; decide), fun p np => ?_⟩
            obtain ⟨vb, g4, g5, e, r⟩ := newBest p np fun j x' q' hj e => by
              have := hmax j x' q' hj e
              grind
            exact ⟨vb, g4, g5, e, r⟩
          · have hlt : ¬ q2 < q1 := fun z => hlt (decide_eq_true z)
            refine ⟨_, _, _, rfl, s2, hall', .inr ⟨T1, sv1, _, x2, q2, rfl, g2, g3, ⟨j0, by omega, ej0⟩, fun j x' q' hj e => ?_⟩⟩
            by_cases hji : j = i
            · rw [hji, eo] at e
              cases e
              grind
            · exact hmax j x' q' (by omega) e
    · rintro σ H2 ⟨vb, f4, f5, rfl, s2, hall, hvb⟩
      have hpos : 0 < acc.length := by rw [lacc, hco.1]; exact Nat.pow_pos (by decide)
      rcases hvb with ⟨h, _⟩ | ⟨T0, sv, ov, x, r, rfl, h2, h3, ⟨j, hj, ej⟩, hmax⟩
      · omega
      · have sgOf : ∀ j, j < os.length → ∃ sg, (mSigns hs.length)[j]? = some sg := fun j hj => ⟨_, List.getElem?_eq_getElem (by rw [mSigns_len, ← hco.1]; exact hj)⟩
        refine ⟨_, rfl, q H2 _ (s1.trans s2) (.inr ⟨T0, sv, ov, x, r, rfl, h2, h3, ?_, fun sg hsg => ?_⟩)⟩
        · obtain ⟨sg, esg⟩ := sgOf j (by omega)
          exact ⟨sg, List.mem_of_getElem? esg, x, hco.2 j _ sg ej esg⟩
        · obtain ⟨j, hj, ej⟩ := List.mem_iff_getElem.mp hsg
          rw [mSigns_len, ← hco.1] at hj
          obtain ⟨x', q', e'⟩ := hall j (by omega)
          exact ⟨x', q', hco.2 j _ sg e' (by rw [List.getElem?_eq_getElem (by rw [mSigns_len, ← hco.1]; exact hj), ej]), hmax j x' q' (by omega) e'⟩
end
end Cs
set_option Elab.async false
set_option linter.all false
set_option maxRecDepth 100000
set_option maxHeartbeats 8000000
/-! raise C(), C an own class over ArithmeticError with def __init__(self): pass -/
namespace Cs
open PySem PySem.Spec PyProof.Rows L2
def aeTail : List Value := [.type "ArithmeticError", .type "Exception", .type "BaseException", .type "object"]
def refsAE : List Value → Bool
  | .ref _ :: r => refsAE r
  | l => l == aeTail
theorem refsAE_cases : ∀ l : List Value, refsAE l = true → (∃ c r, l = .ref c :: r ∧ refsAE r = true) ∨ l = aeTail := fun l e => by
  unfold refsAE at e
  split at e
  · exact .inl ⟨_, _, rfl, e⟩
  · exact .inr (beq_iff_eq.mp e)
theorem refsAE_contains (X : String) : ∀ l : List Value, refsAE l = true → l.contains (.type X) = aeTail.contains (.type X) := by
  intro l
  induction l with
  | nil => intro e; exact absurd e (by decide)
  | cons a r ih =>
    intro e
    rcases refsAE_cases (a :: r) e with ⟨c, r', q, h⟩ | q
    · obtain ⟨rfl, rfl⟩ := List.cons.inj q
      rw [List.contains_cons, ih h]; rfl
    · rw [q]
/-- what the written part says of the class -/
structure NsC (K : PySem.W.Frag) (C fI : Addr) : Prop where
  cls : ∃ nm q N bs bm sn sub ab col dd k0 k1 k2 k3 k5, K.lookup C = some (excClassObj nm q C N bs bm true sn sub ab col dd k0 k1 k2 k3 k5 "ArithmeticError.__new__") ∧ refsAE bm = true
  exC : PySem.W.subIn K (.ref C) (.type "BaseException") = some true
  tyC : PySem.W.typeIn K (.ref C) = some (.type "type")
  kC : PySem.W.keepIn K (.ref C) = true
  iC : PySem.W.findIn K (.ref C) "__init__" = some (some (.ref fI))
  tI : PySem.W.typeIn K (.ref fI) = some (.type "function")
section
variable {X : Cx}
theorem mk_endN {pins : List (Addr × Obj)} {σ : L2.St} {H1 : Hp} {Q : XK} {hp hp2 h2 : Heap} {g1 g2 : Array GenState} {d1 d2 : Drawn} {t1 t2 : Nat} {os1 os2 : OsState} {a C : Addr} (T : Raises X (.ref C)) (I1 : Inv X pins σ H1 ⟨hp, g1, d1, t1, os1⟩)
    (ha : hp.objs.size ≤ a) (k : ∀ b o, hp.get? b = some o → hp2.get? b = some o) (un : Un (L2.frs X.stack) [] (upd H1 a (exo a C none)) (upd H1 a (exo a C none)) hp2 h2) (hok : HOk X.prog X.w (upd H1 a (exo a C none)) h2) (ho : os2 = os1) (hb : AllBare g2)
    (q : Q (.ref C) none H1) : MkP X pins σ Q (.ref a) ⟨h2, g2, d2, t2, os2⟩ := by
  obtain ⟨t0, hoe⟩ := exo_at hok upd_same
  have hn : H1 a = none := I1.hok.fresh ha
  obtain ⟨G, g1', g2'⟩ := restrict h2 fun b => decide (b ≠ a)
  have gk : ∀ b, b ≠ a → G.get? b = h2.get? b := fun b hb => g1' b (decide_eq_true hb)
  have ge : G.get? a = none := g2' a (by simp)
  have nha : ∀ {b : Addr} {o : Obj}, hp.get? b = some o → b ≠ a := fun {b o} z => Nat.ne_of_lt (Nat.lt_of_lt_of_le (Heap.lt_size z) ha)
  have up : ∀ {b : Addr}, b ≠ a → H1 b = none → upd H1 a (exo a C none) b = none := fun {b} hb n => by rw [upd_ne hb]; exact n
  have U : Un (L2.frs X.stack) [] H1 H1 hp G := {
    keep := fun b o z n hf hx => by
      rw [gk b (nha z)]
      exact un.keep b o (k b o z) (up (nha z) n) hf hx
    slot := fun b o z n hf hx => by
      rw [gk b (nha z)]
      exact un.slot b o (k b o z) (up (nha z) n) hf hx
    free := fun b o z n hx => n
    there := fun b o z hx => by
      rw [gk b (nha z)]
      exact un.there b o (k b o z) hx
    tups := fun b xs z => z
    frzs := fun b o v z => z
    tbls := fun b ps z => ⟨#[], by simpa using z⟩ }
  have hok3 : HOk X.prog X.w H1 G := fun b o z => by
    have hba : b ≠ a := fun e => by
      rw [e, hn] at z
      cases z
    have z2 : (upd H1 a (exo a C none)) b = some o := by rw [upd_ne hba]; exact z
    refine (hok b o z2).stay (fun c v hc y => ?_) (fun c hc => ?_) (fun c xs hc => ?_)
    · have hca : c ≠ a := by
        rcases hc with hc | hc
        · rw [hc]
          exact hba
        · exact at_ne upd_same hc exo_own
      rw [gk c hca]
      exact y
    · have hca : c ≠ a := at_ne upd_same hc exo_own
      rw [upd_ne hca] at hc
      exact hc
    · have hca : c ≠ a := at_ne upd_same hc exo_tup
      rw [upd_ne hca] at hc
      exact hc
  have J : Inv X pins σ H1 ⟨G, g2, d2, t2, os2⟩ := I1.call' (ch := []) ho U hok3 hb (fun b z => absurd z (by simp))
  refine ⟨a, _, _, ⟨G, g2, d2, t2, os2⟩, _, .ref C, none, rfl, J, fun b o z => ?_, ge, hoe, ⟨rfl, rfl⟩, rfl, rfl, hn, rfl, hb, T, q⟩
  by_cases hba : b = a
  · rw [hba, ge] at z
    cases z
  · exact (gk b hba).symm.trans z
/-- the __init__ that does nothing -/
def spIdle : Sp := fun vs H Q _ => ∃ v, vs = [v] ∧ Q .non H
theorem pmk_ns {CX : CXT} {x : Str} {C fI : Addr} {k : Nat} {fd : FuncData} {p pos : Pos} (T : NsC X.K C fI) (F1 : FnOk X.prog X.w X.K X.mg X.base CX k fI fd ["self"] spIdle) (hr : Room (k + 1) X.A) (hb : Binds X.K fd ["self"] []) (hx : Passes CX X (fun _ _ _ => False)) (hg : Gl X x) (hm : X.mg x = some (.ref C))
    (hdb : (x == ("__debug__" : Str)) = false := by decide) : PMk X (.Call (.Name x p) [] [] pos) (fun σ H Q => Q (.ref C) none H) := by
  intro pins s σ H Q I h
  obtain ⟨nm, q, N, bs, bm, sn, sub, ab, col, dd, k0, k1, k2, k3, k5, hC, hbm⟩ := T.cls
  refine wpAny_Call_Name_kw (ld_glob I hg hm ?_ hdb)
  refine PySem.W.callWith_K0 I.kIn T.kC ?_
  obtain ⟨hp, g, dr, tk, os⟩ := s
  have hsz : hp.objs.size ≤ hp.objs.size + 1 := Nat.le_succ _
  have hn : H (hp.objs.size + 1) = none := I.hok.fresh hsz
  have kk : ∀ b o, hp.get? b = some o → ((hp.push (PySem.W.kdv_tup [])).push (PySem.HandSPX.excO C hp.objs.size)).get? b = some o := fun b o e => Heap.get?_push_of_some _ (Heap.get?_push_of_some _ e)
  have hget : ((hp.push (PySem.W.kdv_tup [])).push (PySem.HandSPX.excO C hp.objs.size)).get? (hp.objs.size + 1) = some (PySem.HandSPX.excO C hp.objs.size) := by heap_get
  have I2 : Inv X pins σ (upd H (hp.objs.size + 1) (exo (hp.objs.size + 1) C none)) ⟨(hp.push (PySem.W.kdv_tup [])).push (PySem.HandSPX.excO C hp.objs.size), g, dr, tk, os⟩ :=
    I.laid (t' := tk) (a := hp.objs.size + 1) (o := exo (hp.objs.size + 1) C none) (h' := (hp.push (PySem.W.kdv_tup [])).push (PySem.HandSPX.excO C hp.objs.size)) kk hsz (exo_ok hget)
  have r2 : Vals (V.ref (hp.objs.size + 1) :: ([] : List V)) (Value.ref (hp.objs.size + 1) :: []) := .cons rfl .nil
  refine wpAny_call (PySem.HandSPX.call_own F.excBase_ArithmeticError (fun Y => refsAE_contains Y bm hbm) (I.kIn _ _ hC) (PySem.W.looks_findIn I.kIn T.iC) (fun self => PySem.W.bind_fn I.kIn self T.tI) (by show 0 ≤ sizeLine; decide)
    (codeAny_mono (F1.run _ X.stack _ _ ⟨Value.ref (hp.objs.size + 1) :: [], []⟩ (Value.ref (hp.objs.size + 1) :: []) _ (fun v H' => v = .non ∧ H' = upd H (hp.objs.size + 1) (exo (hp.objs.size + 1) C none)) (fun _ _ _ => False) (hr.make C [] []) (I2.env0.make C [] []) (hb _ (Value.ref (hp.objs.size + 1) :: []) I2.kIn rfl) r2 ⟨_, rfl, rfl, rfl⟩) fun r s' hq' => ?_))
  cases r with
  | error er => exact hx pins σ _ _ er s' I2 hq'
  | ok fl =>
    cases fl with
    | ret u =>
      obtain ⟨v, H2, os2, bare2, un2, hok2, rv, ev, eH⟩ := hq'
      subst ev eH
      obtain ⟨h2, g2, d2, t2, os'⟩ := s'
      exact ⟨rv, mk_endN (raises_own T.exC T.tyC) I hsz kk un2 hok2 os2 bare2 h⟩
    | next => exact False.elim hq'
    | brk => exact False.elim hq'
    | cont => exact False.elim hq'
end
end Cs
set_option Elab.async false
set_option linter.all false
set_option maxRecDepth 100000
set_option maxHeartbeats 8000000
/-! dearest_for, worst_price; _law_asked of a lambda -/
namespace Cs
open PySem PySem.Spec PyProof.Rows L2
/-- a def of the top that keeps a promise and may raise -/
structure CalX (P : Program) (w : World) (K : PySem.W.Frag) (mg : Str → Option Value) (base : Heap) (k : Nat) (x : Str) (ps : List Str) (sp : Sp) : Prop where
  ex : ∃ f fd, FnOk P w K mg base (L2.CX P w) k f fd ps sp ∧ PySem.W.keepIn K (.ref f) = true ∧ Binds K fd ps [] ∧ mg x = some (.ref f)
section
variable {X : Cx} {k j : Nat} {x : Str} {ps : List Str} {sp : Sp} {p pos : Pos} {e : Expr} {es : List Expr} {t : TA} {E : XK}
theorem pe_calX (C : CalX X.prog X.w X.K X.mg X.base k x ps sp) (hr : Room j X.A) (hx : Passes (L2.CX X.prog X.w) X E) (ha : PA X (e :: es) t) (hkj : k ≤ j := by decide) (hg : Gl X x := by rfl) (hdb : (x == ("__debug__" : Str)) = false := by decide)
    (he : starEach (e :: es) X.env = (false, eval e X.env) :: starEach es X.env := by rfl) (hpl : (backTo pos (starEach es X.env)).any (·.1) = false := by rfl) :
    PE X (.Call (.Name x p) (e :: es) [] pos) (tCall sp [] E t) := by
  obtain ⟨f, fd, F, kp, b, g⟩ := C.ex
  exact pe_call F (hr.mono hkj) hg g kp b .nil hx ha hdb he hpl
end
section
variable {P : Program} {w : World} {K : PySem.W.Frag} {mg : Str → Option Value} {base : Heap}
abbrev sNsInit : Stmt := inClass (topS 15) 0
theorem scNsInit : FnScope ["self"] ["self"] (defScope sNsInit) := ⟨rfl, rfl, rfl, by decide +kernel, rfl, by decide +kernel, by decide +kernel⟩
/-- the class NotServed with its __init__ -/
structure NsAt (K : PySem.W.Frag) (mg : Str → Option Value) (C : Addr) : Prop where
  ex : ∃ f fd, Fun K "__init__" "NotServed.__init__" sNsInit f fd ∧ Binds K fd ["self"] [] ∧ NsC K C f ∧ mg "NotServed" = some (.ref C)
structure NsOk (P : Program) (w : World) (K : PySem.W.Frag) (mg : Str → Option Value) (base : Heap) (C : Addr) : Prop where
  ex : ∃ f fd, FnOk P w K mg base CX0 1 f fd ["self"] spIdle ∧ Binds K fd ["self"] [] ∧ NsC K C f ∧ mg "NotServed" = some (.ref C)
theorem c_ns {C : Addr} (D : NsAt K mg C) : NsOk P w K mg base C := by
  obtain ⟨f, fd, F, b, T, g⟩ := D.ex
  refine ⟨f, fd, ?_, b, T, g⟩
  refine F.ok scNsInit (fun vs H Q E h => ?_) (fun cdv A outer s H vs Q E hr h => ?_)
  · obtain ⟨v, rfl, _⟩ := h
    rfl
  · obtain ⟨v, rfl, q⟩ := h
    exact ⟨_, pss_one ps_pass, q⟩
abbrev sDearFor : Stmt := topS 89
abbrev sWorst : Stmt := topS 90
theorem scDearFor : FnScope ["table", "target", "prices", "found"] ["table", "target", "prices"] (defScope sDearFor) := ⟨rfl, rfl, rfl, by decide +kernel, rfl, by decide +kernel, by decide +kernel⟩
theorem scWorst : FnScope ["table", "target", "prices"] ["table", "target", "prices"] (defScope sWorst) := ⟨rfl, rfl, rfl, by decide +kernel, rfl, by decide +kernel, by decide +kernel⟩
def spDearFor (K : PySem.W.Frag) (CT CO CN : Addr) : Sp := fun vs H Q E => ∃ (X : List Addr) (t va vp : V) (hs : List Str) (ls : Lines) (aim : Aim) (fees : List Int), vs = [t, va, vp] ∧ Xin X H ∧ TabAt K CT X H t hs ls ∧ Dp K (cutH X H) va (dAim aim) ∧ Dp K (cutH X H) vp (iTup' fees) ∧ Ask hs ls aim ∧
  fees.length = ls.length ∧ FeesOk fees ∧ (∀ H' T sv ov x q, Same H H' → H' T = some (.tup [sv, ov]) → OutAt K CO X H' ov (some (x, q)) → TopCorner ls aim hs.length fees q → Q (.ref T) H') ∧ (∀ H', Same H H' → NoCorner ls aim hs.length fees → E (.ref CN) none H')
theorem c_dearfor {CT CO CN : Addr} (D : DefAt K mg "dearest_for" sDearFor ["table", "target", "prices"]) (N : NsOk P w K mg base CN) (Cp : Cal P w K mg base 6 "check_priced" ["table", "target", "prices"] (spCkP K CT)) (De : Cal P w K mg base 10 "dearest_of" ["table", "target", "prices"] (spDear K CT CO)) :
    CalX P w K mg base 11 "dearest_for" ["table", "target", "prices"] (spDearFor K CT CO CN) := by
  obtain ⟨f, fd, F, b, g⟩ := D.ex
  obtain ⟨fI, fdI, FI, bI, TN, gN⟩ := N.ex
  refine ⟨f, fd, ?_, F.kp, b, g⟩
  refine F.okX scDearFor (fun vs H Q E h => ?_) (fun cdv A outer s H vs Q E hr h => ?_)
  · obtain ⟨X, t, va, vp, hs, ls, aim, fees, rfl, _⟩ := h
    rfl
  · obtain ⟨X, t, va, vp, hs, ls, aim, fees, rfl, hX, hT, ha, hp, ask, lf, okf, q, qe⟩ := h
    refine ⟨_, pss_cons (ps_expr (pe_cal Cp hr (pa_cons (pv 0) (pa_cons (pv 1) (pa_cons (pv 2) pa_nil))))) (pss_cons (ps_set (i := 3) scDearFor.nd rfl (.inl rfl) (pe_cal De hr (pa_cons (pv 0) (pa_cons (pv 1) (pa_cons (pv 2) pa_nil)))))
      (pss_cons (ps_if (pt_cmpR op_isN (pv 3) pe_non (nomark _)) (pss_one (ps_raise rfl (takes_of rfl rfl rfl rfl) (pmk_ns TN FI (hr.mono (by decide)) bI pass0 rfl gN))) pss_nil) (pss_one (ps_ret (pv 3))))), ?_⟩
    refine ⟨_, rfl, _, rfl, _, rfl, X, t, va, vp, hs, ls, aim, fees, rfl, hX, hT, ha, hp, ask, lf, okf, fun H1 s1 => ⟨_, rfl, _, rfl, _, rfl, X, t, va, vp, hs, ls, aim, fees, rfl, hX.same s1, hT.same s1, ha.same (same_cut s1), hp.same (same_cut s1), ask, lf, okf, fun H2 v2 s2 hv2 => ?_⟩⟩
    rcases hv2 with ⟨rfl, hn⟩ | ⟨T0, sv, ov, x, r, rfl, h2, h3, h4⟩
    · exact ⟨_, rfl, rfl, true, rfl, iteT (qe H2 (s1.trans s2) hn)⟩
    · exact ⟨_, rfl, rfl, false, rfl, iteF ⟨_, rfl, q H2 T0 sv ov x r (s1.trans s2) h2 h3 h4⟩⟩
def spWorst (K : PySem.W.Frag) (CT CN : Addr) : Sp := fun vs H Q E => ∃ (X : List Addr) (t va vp : V) (hs : List Str) (ls : Lines) (aim : Aim) (fees : List Int), vs = [t, va, vp] ∧ Xin X H ∧ TabAt K CT X H t hs ls ∧ Dp K (cutH X H) va (dAim aim) ∧ Dp K (cutH X H) vp (iTup' fees) ∧ Ask hs ls aim ∧
  fees.length = ls.length ∧ FeesOk fees ∧ (∀ H' v q, Same H H' → Fr K H' v q → TopCorner ls aim hs.length fees q → Q v H') ∧ (∀ H', Same H H' → NoCorner ls aim hs.length fees → E (.ref CN) none H')
theorem c_worst {CT CO CN : Addr} (D : DefAt K mg "worst_price" sWorst ["table", "target", "prices"]) (T : OutC K CO) (De : CalX P w K mg base 11 "dearest_for" ["table", "target", "prices"] (spDearFor K CT CO CN)) : CalX P w K mg base 12 "worst_price" ["table", "target", "prices"] (spWorst K CT CN) := by
  obtain ⟨f, fd, F, b, g⟩ := D.ex
  refine ⟨f, fd, ?_, F.kp, b, g⟩
  refine F.okX scWorst (fun vs H Q E h => ?_) (fun cdv A outer s H vs Q E hr h => ?_)
  · obtain ⟨X, t, va, vp, hs, ls, aim, fees, rfl, _⟩ := h
    rfl
  · obtain ⟨X, t, va, vp, hs, ls, aim, fees, rfl, hX, hT, ha, hp, ask, lf, okf, q, qe⟩ := h
    refine ⟨_, pss_one (ps_ret (pe_fldK K (pe_ix (ix_tupK K) (pe_calX De hr (E := E) (passes_call (takes_of rfl rfl rfl rfl) fun cls d σ H h => h) (pa_cons (pv 0) (pa_cons (pv 1) (pa_cons (pv 2) pa_nil)))) pe_int (fun _ _ => rfl)))), ?_⟩
    refine ⟨_, rfl, _, rfl, _, rfl, X, t, va, vp, hs, ls, aim, fees, rfl, hX, hT, ha, hp, ask, lf, okf, fun H1 T0 sv ov x r s1 h2 h3 h4 => ?_, qe⟩
    obtain ⟨a, dx, p, c, g, rfl, ea, hpt, hct⟩ := h3
    exact ⟨T0, _, _, _, rfl, rfl, .inl (.inl h2), atI_nat (j := 1) rfl, a, CO, dx, _, _, rfl, ea, T.cl, T.nC, rfl, q H1 c r s1 hct h4⟩
end
end Cs
set_option Elab.async false
set_option linter.all false
set_option maxRecDepth 100000
set_option maxHeartbeats 8000000
/-! the law's wants -/
namespace Cs
open PySem PySem.Spec PyProof.Rows L2
/-- a list that may be written to -/
def RawL (K : PySem.W.Frag) (X : List Addr) (H : Hp) (v : V) (ds : List PyData) : Prop := ∃ a xs, v = .ref a ∧ H a = some (.lst xs) ∧ a ∉ X ∧ DpAll K (cutH X H) xs ds
theorem RawL.dp {K : PySem.W.Frag} {X : List Addr} {H : Hp} {v : V} {ds : List PyData} (h : RawL K X H v ds) : Dp K (cutH X H) v (.list ds) := by
  obtain ⟨a, xs, rfl, e, n, hd⟩ := h
  exact .lst (.inl (.inl (cut_mk e n))) hd
theorem RawL.same {K : PySem.W.Frag} {X : List Addr} {H H' : Hp} {v : V} {ds : List PyData} (h : RawL K X H v ds) (s : Same H H') : RawL K X H' v ds := by
  obtain ⟨a, xs, rfl, e, n, hd⟩ := h
  exact ⟨a, xs, rfl, s _ _ e, n, hd.same (same_cut s)⟩
abbrev Body := List (List (Int × Int))
def dBody (b : Body) : PyData := .list (b.map fun r => .list (r.map dSt))
def bEnds (b : Body) (k e : Nat) : List Int := b.map fun r => pick e (r.getD k (0, 0))
def sgE (sg : Int) : Nat := if 0 < sg then 1 else 0
abbrev Want := List Int × Int
def dWant (r : Want) : PyData := .tuple [.list (r.1.map .int), .int r.2]
def mWant (b : Body) (aim : Aim) (k : Nat) (sg : Int) : Want := ((bEnds b k (sgE sg)).map (sg * ·), sg * pick (sgE sg) (aim.getD k (0, 0)))
def mWants (b : Body) (aim : Aim) (marks : List Int) : List Want := (List.range aim.length).map fun k => mWant b aim k (marks.getD k 0)
def mSure (b : Body) (aim : Aim) : List Want := mWants b aim (List.replicate aim.length 1) ++ mWants b aim (List.replicate aim.length (-1))
def mSome (b : Body) (aim : Aim) : List Want := (List.range aim.length).flatMap fun k => [(bEnds b k 0, pick 1 (aim.getD k (0, 0))), ((bEnds b k 1).map (- ·), -pick 0 (aim.getD k (0, 0)))]
/-- a body that fits an aim -/
structure BodyOk (b : Body) (n : Nat) : Prop where
  t3 : b.length ≤ 3
  wd : ∀ r ∈ b, r.length = n
  bd : ∀ r ∈ b, ∀ p ∈ r, Bd p
theorem bRow_at {K : PySem.W.Frag} {H : Hp} {xs : List V} {b : Body} {i : Nat} {x : V} (h : DpAll K H xs (b.map fun r => .list (r.map dSt))) (e : xs[i]? = some x) : ∃ r, b[i]? = some r ∧ Dp K H x (.list (r.map dSt)) := by
  obtain ⟨d, e1, e2⟩ := h.at e
  rw [List.getElem?_map] at e1
  cases e3 : b[i]? with
  | none =>
    rw [e3] at e1
    cases e1
  | some q =>
    rw [e3] at e1
    cases e1
    exact ⟨q, rfl, e2⟩
section
variable {P : Program} {w : World} {K : PySem.W.Frag} {mg : Str → Option Value} {base : Heap}
abbrev sLEnds : Stmt := topS 107
abbrev nLEnds : List Str := ["_law_body_here", "_law_k", "_law_sign", "_law_each"]
theorem scLEnds : FnScope nLEnds ["_law_body_here", "_law_k", "_law_sign"] (defScope sLEnds) := ⟨rfl, rfl, rfl, by decide +kernel, rfl, by decide +kernel, by decide +kernel⟩
def spLEnds (K : PySem.W.Frag) : Sp := fun vs H Q _ => ∃ (X : List Addr) (vb : V) (b : Body) (n k : Nat) (sg : Int), vs = [vb, .int k, .int sg] ∧ Xin X H ∧ Dp K (cutH X H) vb (dBody b) ∧ BodyOk b n ∧ k < n ∧ ∀ H' v, Same H H' → RawL K X H' v ((bEnds b k (sgE sg)).map .int) → Q v H'
theorem c_lends (D : DefAt K mg "_law_ends" sLEnds ["_law_body_here", "_law_k", "_law_sign"]) (T : Bn mg) : Cal P w K mg base 1 "_law_ends" ["_law_body_here", "_law_k", "_law_sign"] (spLEnds K) := by
  refine D.cal fun f fd F => ?_
  refine F.ok scLEnds (fun vs H Q E h => ?_) (fun cdv A outer s H vs Q E hr h => ?_)
  · obtain ⟨X, vb, b, n, k, sg, rfl, _⟩ := h
    rfl
  · obtain ⟨X, vb, b, n, k, sg, rfl, hX, hb, ok, hk, q⟩ := h
    refine ⟨_, pss_one (ps_ret (pe_lc (own := [("_law_each", 3)]) (g := gName 3) (tt := tYes) rfl scLEnds.nd (pi_list (pv 0)) (blkOk_by (own := [("_law_each", 3)]) (N := nLEnds) (sc := defScope sLEnds) (by decide +kernel))
      (fun _ _ _ _ _ => pg_name (i := 3) scLEnds.nd rfl (.inl rfl)) (fun _ _ _ _ _ => pts_nil)
      (fun _ _ _ _ _ => pe_ix (ix_tupK K) (pe_ix (ix_lstK K) (pv 3) (pv 1) (fun _ _ => rfl)) (pe_callTy call_int1 (by rfl) T.int (by decide +kernel) (pa_cons (pe_cmpR op_gt (pv 2) pe_int (nomark _)) pa_nil)) (fun _ _ => rfl)))), ?_⟩
    obtain ⟨a, xs, rfl, hs, hd⟩ := hb.list
    have lx : xs.length = b.length := by rw [hd.length, List.length_map]
    have t3 := ok.t3
    refine ⟨_, rfl, a, rfl, ⟨_, cut_same.seq hs⟩, fun D hD => ?_⟩
    refine lc_mapR (K := K) walk_list X ((bEnds b k (sgE sg)).map .int) hX hD (by rw [List.length_map, bEnds, List.length_map, lx]) (by omega) (fun H2 s2 => s2.seq (cut_same.seq hs)) ?_ fun H2 ys s2 eD hd2 => q H2 _ s2 ⟨D, ys, rfl, eD, hX.new hD, hd2⟩
    rintro i x H2 H3 d Q2 hd2 s2 sc hX2 ⟨rfl, ex⟩ kk
    obtain ⟨r, er, hr2⟩ := bRow_at hd ex
    obtain ⟨ar, rs, rfl, hsr, hdr⟩ := (hr2.same (cut_same.trans s2)).list
    have hw := ok.wd r (List.mem_of_getElem? er)
    obtain ⟨y, ey, hy⟩ := sts_get hdr (List.getElem?_eq_getElem (show k < r.length by omega))
    obtain ⟨ay, rfl, hsy, hat⟩ := pick_at hy (e := sgE sg) (by unfold sgE; split <;> omega)
    have e1 : d = .int (pick (sgE sg) r[k]) := by
      unfold bEnds at hd2
      rw [List.getElem?_map, List.getElem?_map, er] at hd2
      rw [(Option.some.inj hd2).symm]
      show PyData.int (pick (sgE sg) (r.getD k (0, 0))) = _
      rw [List.getD_eq_getElem?_getD, List.getElem?_eq_getElem (show k < r.length by omega)]
      rfl
    subst e1
    have ee : (if decide (0 < sg) then (1 : Int) else 0) = ((sgE sg : Nat) : Int) := by
      unfold sgE
      by_cases h : 0 < sg
      · rw [decide_eq_true h, if_pos h]
        rfl
      · rw [decide_eq_false h, if_neg h]
        rfl
    refine ⟨rfl, _, rfl, _, rfl, ar, rs, _, _, rfl, rfl, hsr, atI_nat ey, _, rfl, _, _, rfl, rfl, .inr ⟨_, rfl, ?_⟩⟩
    show rIxT K (.ref ay) (.int (if decide (0 < sg) then (1 : Int) else 0)) H3 Q2
    rw [ee]
    exact ⟨ay, _, _, _, rfl, rfl, hsy, hat, kk _ _ (Same.refl _) (.int _)⟩
abbrev sLWants : Stmt := topS 108
abbrev nLWants : List Str := ["_law_body_here", "_law_aim_here", "_law_marks_here", "_law_found", "_law_k", "_law_sign", "_law_numbers", "_law_end"]
theorem scLWants : FnScope nLWants ["_law_body_here", "_law_aim_here", "_law_marks_here"] (defScope sLWants) := ⟨rfl, rfl, rfl, by decide +kernel, rfl, by decide +kernel, by decide +kernel⟩
def spLWants (K : PySem.W.Frag) : Sp := fun vs H Q _ => ∃ (X : List Addr) (vb va vm : V) (b : Body) (aim : Aim) (marks : List Int), vs = [vb, va, vm] ∧ Xin X H ∧ Dp K (cutH X H) vb (dBody b) ∧ Dp K (cutH X H) va (dAim aim) ∧ Dp K (cutH X H) vm (iTup' marks) ∧ BodyOk b aim.length ∧ aim.length ≤ 3 ∧ marks.length = aim.length ∧
  (∀ m ∈ marks, m = 1 ∨ m = -1) ∧ ∀ H' v, Same H H' → RawL K X H' v ((mWants b aim marks).map dWant) → Q v H'
theorem c_lwants (D : DefAt K mg "_law_wants" sLWants ["_law_body_here", "_law_aim_here", "_law_marks_here"]) (T : Bn mg) (En : Cal P w K mg base 1 "_law_ends" ["_law_body_here", "_law_k", "_law_sign"] (spLEnds K)) : Cal P w K mg base 2 "_law_wants" ["_law_body_here", "_law_aim_here", "_law_marks_here"] (spLWants K) := by
  refine D.cal fun f fd F => ?_
  refine F.ok scLWants (fun vs H Q E h => ?_) (fun cdv A outer s H vs Q E hr h => ?_)
  · obtain ⟨X, vb, va, vm, b, aim, marks, rfl, _⟩ := h
    rfl
  · obtain ⟨X, vb, va, vm, b, aim, marks, rfl, hX, hb, ha, hm, ok, w3, lm, hsg, q⟩ := h
    refine ⟨_, pss_cons (ps_set (i := 3) scLWants.nd rfl (.inl rfl) (pe_lst pa_nil)) (pss_cons (ps_for PassesOwn.never rfl (pi_range1 (by rfl) T.range (pa_cons (pe_callB call_len_seq (by rfl) T.len PySem.boot_len (pa_cons (pv 1) pa_nil)) pa_nil)) (pg_name (i := 4) scLWants.nd rfl (.inl rfl))
        (pss_cons (ps_set (i := 5) scLWants.nd rfl (.inr rfl) (pe_ix (ix_tupK K) (pv 2) (pv 4) (fun _ _ => rfl)))
        (pss_cons (ps_setLc (i := 6) (own := [("_law_end", 7)]) (g := gName 7) (tt := tYes) rfl scLWants.nd rfl rfl (sw_true rfl rfl rfl (by decide +kernel)) (pi_list (pe_cal En hr (pa_cons (pv 0) (pa_cons (pv 4) (pa_cons (pv 5) pa_nil))))) (blkOk_by (own := [("_law_end", 7)]) (N := nLWants) (sc := defScope sLWants) (by decide +kernel))
          (fun _ _ _ _ _ => pg_name (i := 7) scLWants.nd rfl (.inl rfl)) (fun _ _ _ _ _ => pts_nil) (fun _ _ _ _ _ => pe_op op_mul (pv 5) (pv 7)))
        (pss_one (ps_expr (pe_bm PySem.F.plainAttrs_list PySem.F.slot_list_append PySem.F.type_list_append mt_append (pv 3) (pa_cons (pe_tup (pa_cons (pv 6) (pa_cons (pe_op op_mul (pv 5) (pe_ix (ix_tupK K) (pe_ix (ix_tupK K) (pv 1) (pv 4) (fun _ _ => rfl)) (pe_callTy call_int1 (by rfl) T.int (by decide +kernel) (pa_cons (pe_cmpR op_gt (pv 5) pe_int (nomark _)) pa_nil)) (fun _ _ => rfl))) pa_nil))) pa_nil)))))))
      (pss_one (ps_ret (pv 3)))), ?_⟩
    obtain ⟨aa, as, rfl, hsa, hda⟩ := ha.tuple
    obtain ⟨am, ms, rfl, hsm, hdm⟩ := hm.tuple
    have la : as.length = aim.length := by rw [hda.length, List.length_map]
    have t3 := ok.t3
    refine ⟨Nat.zero_le _, fun L hL => ?_⟩
    have s0 : Same H (upd H L (.lst [])) := Same.new hL
    have nLX : L ∉ X := hX.new hL
    refine ⟨_, rfl, aa, as, rfl, .inr (s0.tup (cut_same.tup hsa)), (as.length : Nat), rfl, by omega, by omega, ?_⟩
    refine for_it walk_rangeN (fun i σ H2 => ∃ acc f4 f5 f6, σ = [some vb, some (.ref aa), some (.ref am), some (.ref L), f4, f5, f6, none] ∧ Same H H2 ∧ H2 L = some (.lst acc) ∧ DpAll K (cutH (L :: X) H2) acc (((List.range i).map fun k => mWant b aim k (marks.getD k 0)).map dWant))
      ⟨[], none, none, none, rfl, s0, upd_same, .nil⟩ (fun _ _ _ _ _ => trivial) ?_ ?_
    · rintro i x σ H2 H3 hi ⟨acc, f4, f5, f6, rfl, s2, eL, hacc⟩ ⟨rfl, rfl⟩
      have hi : i < aim.length := by
        have : i < (as.length : Int).toNat := hi
        omega
      have sX : Same (cutH X H) (cutH (L :: X) H3) := fun b o h => by
        obtain ⟨h1, h2⟩ := cut_at h
        refine cut_mk (s2 _ _ h1) fun hb => ?_
        rcases List.mem_cons.mp hb with rfl | hb
        · rw [hL] at h1
          cases h1
        · exact h2 hb
      have hX3 : Xin (L :: X) H3 := (hX.same s2).cons eL
      have hmi : i < marks.length := by omega
      have em : marks[i]? = some marks[i] := List.getElem?_eq_getElem hmi
      obtain ⟨y, ey, hy⟩ := hdm.get (i := i) (d := .int marks[i]) (by rw [List.getElem?_map, em]; rfl)
      obtain rfl := hy.int_eq
      have egd : marks.getD i 0 = marks[i] := by rw [List.getD_eq_getElem?_getD, em]; rfl
      have hsgi := hsg _ (List.getElem_mem hmi)
      obtain ⟨yp, eyp, hyp⟩ := sts_get hda (List.getElem?_eq_getElem hi)
      refine ⟨_, rfl, _, rfl, am, ms, _, _, rfl, rfl, (cut_same.trans s2).tup hsm, atI_nat ey, ?_⟩
      refine ⟨_, rfl, _, rfl, _, rfl, L :: X, vb, b, aim.length, i, marks[i], rfl, hX3, hb.same sX, ok, hi, fun H4 v4 s4 hv4 => ?_⟩
      obtain ⟨a4, xs4, rfl, e4, n4, hd4⟩ := hv4
      have exs := DpAll.ints_eq hd4
      have lb : (bEnds b i (sgE marks[i])).length = b.length := by rw [bEnds, List.length_map]
      refine ⟨a4, rfl, ⟨_, .inl (.inl e4)⟩, fun D hD => ?_⟩
      have hX4 := hX3.same s4
      refine lc_map (K := K) walk_list (L :: X) (((bEnds b i (sgE marks[i])).map (marks[i] * ·)).map .int) hX4 hD (by rw [List.length_map, List.length_map, exs, List.length_map]) (by rw [exs, List.length_map]; omega) (fun H5 s5 => s5.seq (.inl (.inl e4))) ?_ fun H5 s5 ho5 => ?_
      · rintro j x H5 H6 d Q2 hd2 s5 sc hX5 ⟨rfl, ex⟩ kk
        rw [exs, List.getElem?_map] at ex
        rw [List.getElem?_map, List.getElem?_map] at hd2
        cases ez : (bEnds b i (sgE marks[i]))[j]? with
        | none =>
          rw [ez] at ex
          cases ex
        | some z =>
          rw [ez] at ex hd2
          cases ex
          cases hd2
          refine ⟨rfl, _, rfl, _, rfl, _, _, rfl, rfl, .inl ⟨by omega, by omega⟩, kk _ _ (Same.refl _) (.int _)⟩
      · have s35 := s4.trans s5
        have s05 := s2.trans s35
        have eL5 := s35 _ _ eL
        obtain ⟨ap, rfl, hsp, hat⟩ := pick_at (hyp.same (cut_same.trans s05)) (e := sgE marks[i]) (by unfold sgE; split <;> omega)
        have ee : (if decide (0 < marks[i]) then (1 : Int) else 0) = ((sgE marks[i] : Nat) : Int) := by
          unfold sgE
          by_cases h : 0 < marks[i]
          · rw [decide_eq_true h, if_pos h]
            rfl
          · rw [decide_eq_false h, if_neg h]
            rfl
        refine ⟨_, rfl, .inl ⟨rfl, _, .inl (.inl eL5)⟩, ?_⟩
        refine ⟨_, rfl, _, rfl, _, rfl, _, rfl, aa, as, _, _, rfl, rfl, (cut_same.trans s05).tup hsa, atI_nat eyp, _, rfl, _, _, rfl, rfl, .inr ⟨_, rfl, ?_⟩⟩
        show rIxT K (.ref ap) (.int (if decide (0 < marks[i]) then (1 : Int) else 0)) H5 _
        rw [ee]
        refine ⟨ap, _, _, _, rfl, rfl, hsp, hat, _, _, rfl, rfl, .inl ⟨by omega, by omega⟩, (by show 2 ≤ sizeLine; decide), fun p np => ?_⟩
        have s6 := Same.new (o := .tup [.ref D, .int (marks[i] * pick (sgE marks[i]) aim[i])]) np
        have s36 := s35.trans s6
        have lacc : acc.length = i := by rw [hacc.length]; simp
        refine ⟨L, acc, _, rfl, rfl, s36 _ _ eL, small1000 (by omega), acc ++ [.ref p], _, _, _, rfl, fun c o e => ?_, upd_same, ?_⟩
        · rw [upd_ne (ne_of_none e hL)]
          exact s36 _ _ (s2 c o e)
        · rw [cut_in List.mem_cons_self, List.range_succ, List.map_append, List.map_append]
          refine (hacc.same (same_cut s36)).append (.cons ?_ .nil)
          have ea : aim.getD i (0, 0) = aim[i] := by rw [List.getD_eq_getElem?_getD, List.getElem?_eq_getElem hi]; rfl
          show Dp K _ _ (dWant (mWant b aim i (marks.getD i 0)))
          unfold mWant
          rw [egd, ea]
          exact .tup (.inl (.inl (cut_upd ((hX3.same s35).new np)))) (.cons (ho5.same (same_cut s6)) (.cons (.int _) .nil))
    · rintro σ H2 ⟨acc, f4, f5, f6, rfl, s2, eL, hacc⟩
      have e : (as.length : Int).toNat = aim.length := by omega
      rw [e] at hacc
      exact ⟨_, rfl, q H2 _ s2 ⟨L, acc, rfl, eL, nLX, hacc.same cut_more⟩⟩
end
end Cs
set_option Elab.async false
set_option linter.all false
set_option maxRecDepth 100000
set_option maxHeartbeats 8000000
/-! the law's sure wants and some wants -/
namespace Cs
open PySem PySem.Spec PyProof.Rows L2
theorem iTup_rep (n : Nat) (m : Int) : iTup' (List.replicate n m) = .tuple (List.replicate n (.int m)) := by
  unfold iTup'
  rw [List.map_replicate]
section
variable {P : Program} {w : World} {K : PySem.W.Frag} {mg : Str → Option Value} {base : Heap}
abbrev sLSure : Stmt := topS 109
theorem scLSure : FnScope ["_law_body_here", "_law_aim_here"] ["_law_body_here", "_law_aim_here"] (defScope sLSure) := ⟨rfl, rfl, rfl, by decide +kernel, rfl, by decide +kernel, by decide +kernel⟩
def spLQ (K : PySem.W.Frag) (m : Body → Aim → List Want) : Sp := fun vs H Q _ => ∃ (X : List Addr) (vb va : V) (b : Body) (aim : Aim), vs = [vb, va] ∧ Xin X H ∧ Dp K (cutH X H) vb (dBody b) ∧ Dp K (cutH X H) va (dAim aim) ∧ BodyOk b aim.length ∧ 1 ≤ aim.length ∧ aim.length ≤ 3 ∧
  ∀ H' v, Same H H' → RawL K X H' v ((m b aim).map dWant) → Q v H'
theorem c_lsure (D : DefAt K mg "_law_sure_wants" sLSure ["_law_body_here", "_law_aim_here"]) (T : Bn mg) (Wa : Cal P w K mg base 2 "_law_wants" ["_law_body_here", "_law_aim_here", "_law_marks_here"] (spLWants K)) : Cal P w K mg base 3 "_law_sure_wants" ["_law_body_here", "_law_aim_here"] (spLQ K mSure) := by
  refine D.cal fun f fd F => ?_
  refine F.ok scLSure (fun vs H Q E h => ?_) (fun cdv A outer s H vs Q E hr h => ?_)
  · obtain ⟨X, vb, va, b, aim, rfl, _⟩ := h
    rfl
  · obtain ⟨X, vb, va, b, aim, rfl, hX, hb, ha, ok, w1, w3, q⟩ := h
    refine ⟨_, pss_one (ps_ret (pe_op op_cat (pe_cal Wa hr (pa_cons (pv 0) (pa_cons (pv 1) (pa_cons (pe_op op_repA (pe_tup (pa_cons pe_int pa_nil)) (pe_callB call_len_seq (by rfl) T.len PySem.boot_len (pa_cons (pv 1) pa_nil))) pa_nil))))
      (pe_cal Wa hr (pa_cons (pv 0) (pa_cons (pv 1) (pa_cons (pe_op op_repA (pe_tup (pa_cons (pe_un un_neg pe_int) pa_nil)) (pe_callB call_len_seq (by rfl) T.len PySem.boot_len (pa_cons (pv 1) pa_nil))) pa_nil)))))), ?_⟩
    obtain ⟨aa, as, rfl, hsa, hda⟩ := ha.tuple
    have hsa0 := cut_same.tup hsa
    have la : as.length = aim.length := by rw [hda.length, List.length_map]
    refine ⟨_, rfl, _, rfl, (by show 1 ≤ sizeLine; decide), fun t1 nt1 => ?_⟩
    have s1 : Same H (upd H t1 (.tup [.int 1])) := Same.new nt1
    refine ⟨_, rfl, aa, as, rfl, .inr (s1.tup hsa0), ?_⟩
    rw [la]
    refine rep_flat (X := X) (d := .int 1) (.inl (.inl upd_same)) (hX.same s1) (fun _ => .int 1) w1 (by omega) fun H2 y s2 hy => ?_
    have s02 := s1.trans s2
    refine ⟨X, vb, _, y, b, aim, List.replicate aim.length 1, rfl, hX.same s02, hb.same (same_cut s02), ha.same (same_cut s02), by rw [iTup_rep]; exact hy, ok, w3, List.length_replicate, fun m hm => .inl (List.mem_replicate.mp hm).2, fun H3 v3 s3 hv3 => ?_⟩
    have s03 := s02.trans s3
    refine ⟨_, rfl, _, rfl, _, rfl, (by show 1 ≤ sizeLine; decide), fun t4 nt4 => ?_⟩
    have s4 : Same H3 (upd H3 t4 (.tup [.int (-1)])) := Same.new nt4
    refine ⟨_, rfl, aa, as, rfl, .inr ((s03.trans s4).tup hsa0), ?_⟩
    rw [la]
    refine rep_flat (X := X) (d := .int (-1)) (.inl (.inl upd_same)) (hX.same (s03.trans s4)) (fun _ => .int (-1)) w1 (by omega) fun H5 y5 s5 hy5 => ?_
    have s05 := s03.trans (s4.trans s5)
    refine ⟨X, vb, _, y5, b, aim, List.replicate aim.length (-1), rfl, hX.same s05, hb.same (same_cut s05), ha.same (same_cut s05), by rw [iTup_rep]; exact hy5, ok, w3, List.length_replicate, fun m hm => .inr (List.mem_replicate.mp hm).2, fun H6 v6 s6 hv6 => ?_⟩
    obtain ⟨a3, x3, rfl, e3, n3, d3⟩ := hv3.same (s4.trans (s5.trans s6))
    obtain ⟨a6, x6, rfl, e6, n6, d6⟩ := hv6
    have l3 : x3.length = aim.length := by rw [d3.length]; simp [mWants]
    have l6 : x6.length = aim.length := by rw [d6.length]; simp [mWants]
    refine ⟨a3, a6, x3, x6, rfl, rfl, e3, e6, Nat.le_of_lt (small1000 (by omega)), fun p np => ?_⟩
    have s7 := Same.new (o := .lst (x3 ++ x6)) np
    have s07 := s05.trans (s6.trans s7)
    refine q _ _ s07 ⟨p, _, rfl, upd_same, (hX.same (s05.trans s6)).new np, ?_⟩
    unfold mSure
    rw [List.map_append]
    exact (d3.same (same_cut s7)).append (d6.same (same_cut s7))
abbrev sLSome : Stmt := topS 110
abbrev nLSome : List Str := ["_law_body_here", "_law_aim_here", "_law_found", "_law_k", "_law_end"]
theorem scLSome : FnScope nLSome ["_law_body_here", "_law_aim_here"] (defScope sLSome) := ⟨rfl, rfl, rfl, by decide +kernel, rfl, by decide +kernel, by decide +kernel⟩
theorem c_lsome (D : DefAt K mg "_law_some_wants" sLSome ["_law_body_here", "_law_aim_here"]) (T : Bn mg) (En : Cal P w K mg base 1 "_law_ends" ["_law_body_here", "_law_k", "_law_sign"] (spLEnds K)) : Cal P w K mg base 3 "_law_some_wants" ["_law_body_here", "_law_aim_here"] (spLQ K mSome) := by
  refine D.cal fun f fd F => ?_
  refine F.ok scLSome (fun vs H Q E h => ?_) (fun cdv A outer s H vs Q E hr h => ?_)
  · obtain ⟨X, vb, va, b, aim, rfl, _⟩ := h
    rfl
  · obtain ⟨X, vb, va, b, aim, rfl, hX, hb, ha, ok, w1, w3, q⟩ := h
    refine ⟨_, pss_cons (ps_set (i := 2) scLSome.nd rfl (.inl rfl) (pe_lst pa_nil)) (pss_cons (ps_for PassesOwn.never rfl (pi_range1 (by rfl) T.range (pa_cons (pe_callB call_len_seq (by rfl) T.len PySem.boot_len (pa_cons (pv 1) pa_nil)) pa_nil)) (pg_name (i := 3) scLSome.nd rfl (.inl rfl))
        (pss_cons (ps_expr (pe_bm PySem.F.plainAttrs_list PySem.F.slot_list_append PySem.F.type_list_append mt_append (pv 2) (pa_cons (pe_tup (pa_cons (pe_cal En hr (pa_cons (pv 0) (pa_cons (pv 3) (pa_cons (pe_un un_neg pe_int) pa_nil)))) (pa_cons (pe_ix (ix_tupK K) (pe_ix (ix_tupK K) (pv 1) (pv 3) (fun _ _ => rfl)) pe_int (fun _ _ => rfl)) pa_nil))) pa_nil)))
        (pss_one (ps_expr (pe_bm PySem.F.plainAttrs_list PySem.F.slot_list_append PySem.F.type_list_append mt_append (pv 2) (pa_cons (pe_tup (pa_cons (pe_lc (own := [("_law_end", 4)]) (g := gName 4) (tt := tYes) rfl scLSome.nd (pi_list (pe_cal En hr (pa_cons (pv 0) (pa_cons (pv 3) (pa_cons pe_int pa_nil))))) (blkOk_by (own := [("_law_end", 4)]) (N := nLSome) (sc := defScope sLSome) (by decide +kernel))
          (fun _ _ _ _ _ => pg_name (i := 4) scLSome.nd rfl (.inl rfl)) (fun _ _ _ _ _ => pts_nil) (fun _ _ _ _ _ => pe_un un_neg (pv 4))) (pa_cons (pe_un un_neg (pe_ix (ix_tupK K) (pe_ix (ix_tupK K) (pv 1) (pv 3) (fun _ _ => rfl)) pe_int (fun _ _ => rfl))) pa_nil))) pa_nil))))))
      (pss_one (ps_ret (pv 2)))), ?_⟩
    obtain ⟨aa, as, rfl, hsa, hda⟩ := ha.tuple
    have hsa0 := cut_same.tup hsa
    have la : as.length = aim.length := by rw [hda.length, List.length_map]
    have t3 := ok.t3
    refine ⟨Nat.zero_le _, fun L hL => ?_⟩
    have s0 : Same H (upd H L (.lst [])) := Same.new hL
    have nLX : L ∉ X := hX.new hL
    refine ⟨_, rfl, aa, as, rfl, .inr (s0.tup hsa0), (as.length : Nat), rfl, by omega, by omega, ?_⟩
    refine for_it walk_rangeN (fun i σ H2 => ∃ acc f4, σ = [some vb, some (.ref aa), some (.ref L), f4, none] ∧ Same H H2 ∧ H2 L = some (.lst acc) ∧ DpAll K (cutH (L :: X) H2) acc (((List.range i).flatMap fun k => [(bEnds b k 0, pick 1 (aim.getD k (0, 0))), ((bEnds b k 1).map (- ·), -pick 0 (aim.getD k (0, 0)))]).map dWant))
      ⟨[], none, rfl, s0, upd_same, .nil⟩ (fun _ _ _ _ _ => trivial) ?_ ?_
    · rintro i x σ H2 H3 hi ⟨acc, f4, rfl, s2, eL, hacc⟩ ⟨rfl, rfl⟩
      have hi : i < aim.length := by
        have : i < (as.length : Int).toNat := hi
        omega
      have sX : Same (cutH X H) (cutH (L :: X) H3) := fun b o h => by
        obtain ⟨h1, h2⟩ := cut_at h
        refine cut_mk (s2 _ _ h1) fun hb => ?_
        rcases List.mem_cons.mp hb with rfl | hb
        · rw [hL] at h1
          cases h1
        · exact h2 hb
      have hX3 : Xin (L :: X) H3 := (hX.same s2).cons eL
      have ea : aim.getD i (0, 0) = aim[i] := by rw [List.getD_eq_getElem?_getD, List.getElem?_eq_getElem hi]; rfl
      obtain ⟨yp, eyp, hyp⟩ := sts_get hda (List.getElem?_eq_getElem hi)
      have lacc : acc.length ≤ 2 * i := by
        rw [hacc.length, List.length_map, List.length_flatMap]
        have : ((List.range i).map fun k => [((bEnds b k 0, pick 1 (aim.getD k (0, 0))) : Want), ((bEnds b k 1).map (- ·), -pick 0 (aim.getD k (0, 0)))].length).sum ≤ 2 * i := by
          have h : ∀ l : List Nat, (l.map fun k => [((bEnds b k 0, pick 1 (aim.getD k (0, 0))) : Want), ((bEnds b k 1).map (- ·), -pick 0 (aim.getD k (0, 0)))].length).sum ≤ 2 * l.length := by
            intro l
            induction l with
            | nil => exact Nat.le_refl _
            | cons a r ih =>
              rw [List.map_cons, List.sum_cons, List.length_cons]
              simp only [List.length_cons, List.length_nil] at ih ⊢
              omega
          have := h (List.range i)
          rw [List.length_range] at this
          exact this
        exact this
      refine ⟨_, rfl, .inl ⟨rfl, _, .inl (.inl eL)⟩, ?_⟩
      refine ⟨_, rfl, _, rfl, _, rfl, L :: X, vb, b, aim.length, i, -1, rfl, hX3, hb.same sX, ok, hi, fun H4 v4 s4 hv4 => ?_⟩
      have s04 := s2.trans s4
      obtain ⟨ap, rfl, hsp⟩ := st_of (hyp.same (cut_same.trans s04))
      refine ⟨_, rfl, _, rfl, aa, as, _, _, rfl, rfl, s04.tup hsa0, atI_nat eyp, ap, _, _, _, rfl, rfl, hsp, atI_nat (j := 1) rfl, (by show 2 ≤ sizeLine; decide), fun p np => ?_⟩
      have s5 := Same.new (o := .tup [v4, .int aim[i].2]) np
      have s35 := s4.trans s5
      have hX4 := hX3.same s4
      refine ⟨L, acc, _, rfl, rfl, s35 _ _ eL, small1000 (by omega), ?_⟩
      -- the second
      have w1 : Dp K (cutH (L :: X) (upd H4 p (.tup [v4, .int aim[i].2]))) (.ref p) (dWant (bEnds b i 0, pick 1 (aim.getD i (0, 0)))) := by
        rw [ea]
        exact .tup (.inl (.inl (cut_upd (hX4.new np)))) (.cons (hv4.dp.same (same_cut s5)) (.cons (.int _) .nil))
      have hacc1 : DpAll K (cutH (L :: X) (upd H4 p (.tup [v4, .int aim[i].2]))) (acc ++ [.ref p]) (((List.range i).flatMap fun k => [(bEnds b k 0, pick 1 (aim.getD k (0, 0))), ((bEnds b k 1).map (- ·), -pick 0 (aim.getD k (0, 0)))]).map dWant ++ [dWant (bEnds b i 0, pick 1 (aim.getD i (0, 0)))]) := (hacc.same (same_cut s35)).append (.cons w1 .nil)
      have e5 : (upd (upd H4 p (.tup [v4, .int aim[i].2])) L (.lst (acc ++ [.ref p]))) L = some (.lst (acc ++ [.ref p])) := upd_same
      have c5 : cutH (L :: X) (upd (upd H4 p (.tup [v4, .int aim[i].2])) L (.lst (acc ++ [.ref p]))) = cutH (L :: X) (upd H4 p (.tup [v4, .int aim[i].2])) := cut_in List.mem_cons_self
      have s05 : Same H (upd (upd H4 p (.tup [v4, .int aim[i].2])) L (.lst (acc ++ [.ref p]))) := fun c o e => by
        rw [upd_ne (ne_of_none e hL)]
        exact s35 _ _ (s2 c o e)
      have hX5 : Xin (L :: X) (upd (upd H4 p (.tup [v4, .int aim[i].2])) L (.lst (acc ++ [.ref p]))) := (hX.same s05).cons e5
      have sX5 : Same (cutH X H) (cutH (L :: X) (upd (upd H4 p (.tup [v4, .int aim[i].2])) L (.lst (acc ++ [.ref p])))) := by
        rw [c5]
        exact sX.trans (same_cut s35)
      rw [← c5] at hacc1
      generalize (upd (upd H4 p (.tup [v4, .int aim[i].2])) L (.lst (acc ++ [.ref p]))) = H5 at e5 c5 s05 hX5 sX5 hacc1 ⊢
      refine ⟨_, rfl, .inl ⟨rfl, _, .inl (.inl e5)⟩, ?_⟩
      refine ⟨_, rfl, _, rfl, L :: X, vb, b, aim.length, i, 1, rfl, hX5, hb.same sX5, ok, hi, fun H6 v6 s6 hv6 => ?_⟩
      obtain ⟨a6, xs6, rfl, e6, n6, hd6⟩ := hv6
      have exs := DpAll.ints_eq hd6
      have lb : (bEnds b i 1).length = b.length := by rw [bEnds, List.length_map]
      refine ⟨a6, rfl, ⟨_, .inl (.inl e6)⟩, fun D hD => ?_⟩
      have hX6 := hX5.same s6
      refine lc_map (K := K) walk_list (L :: X) (((bEnds b i 1).map (- ·)).map .int) hX6 hD (by rw [List.length_map, List.length_map, exs, List.length_map]; rfl) (by rw [exs, List.length_map]; show (bEnds b i 1).length ≤ 1000; omega) (fun H7 s7 => s7.seq (.inl (.inl e6))) ?_ fun H7 s7 ho7 => ?_
      · rintro j x H7 H8 d Q2 hd2 s7 sc hX7 ⟨rfl, ex⟩ kk
        rw [exs, List.getElem?_map] at ex
        rw [List.getElem?_map, List.getElem?_map] at hd2
        have ez' : (bEnds b i (sgE 1)) = bEnds b i 1 := rfl
        rw [ez'] at ex
        cases ez : (bEnds b i 1)[j]? with
        | none =>
          rw [ez] at ex
          cases ex
        | some z =>
          rw [ez] at ex hd2
          cases ex
          cases hd2
          exact ⟨rfl, _, rfl, _, rfl, kk _ _ (Same.refl _) (.int _)⟩
      · have s57 := s6.trans s7
        have s07 := s05.trans s57
        obtain ⟨aq, eq', hsq⟩ := st_of (hyp.same (cut_same.trans s07))
        cases eq'
        refine ⟨_, rfl, _, rfl, aa, as, _, _, rfl, rfl, s07.tup hsa0, atI_nat eyp, ap, _, _, _, rfl, rfl, hsq, atI_nat (j := 0) rfl, _, rfl, (by show 2 ≤ sizeLine; decide), fun p2 np2 => ?_⟩
        have s8 := Same.new (o := .tup [.ref D, .int (-aim[i].1)]) np2
        have s58 := s57.trans s8
        refine ⟨L, acc ++ [.ref p], _, rfl, rfl, s58 _ _ e5, small1000 (by rw [List.length_append]; simp; omega), acc ++ [.ref p] ++ [.ref p2], _, rfl, fun c o e => ?_, upd_same, ?_⟩
        · rw [upd_ne (ne_of_none e hL)]
          exact s58 _ _ (s05 c o e)
        · rw [cut_in List.mem_cons_self, List.range_succ, List.flatMap_append, List.map_append]
          have w2 : Dp K (cutH (L :: X) (upd H7 p2 (.tup [.ref D, .int (-aim[i].1)]))) (.ref p2) (dWant ((bEnds b i 1).map (- ·), -pick 0 (aim.getD i (0, 0)))) := by
            rw [ea]
            exact .tup (.inl (.inl (cut_upd ((hX5.same s57).new np2)))) (.cons (ho7.same (same_cut s8)) (.cons (.int _) .nil))
          have := (hacc1.same (same_cut s58)).append (.cons w2 .nil)
          simpa using this
    · rintro σ H2 ⟨acc, f4, rfl, s2, eL, hacc⟩
      have e : (as.length : Int).toNat = aim.length := by omega
      rw [e] at hacc
      exact ⟨_, rfl, q H2 _ s2 ⟨L, acc, rfl, eL, nLX, hacc.same cut_more⟩⟩
end
end Cs
set_option Elab.async false
set_option linter.all false
set_option maxRecDepth 100000
set_option maxHeartbeats 8000000
/-! the law's fractions -/
namespace Cs
open PySem PySem.Spec PyProof.Rows L2
theorem pe_never {X : Cx} {e : Expr} : PE X e (fun _ _ _ => False) := ⟨fun _ _ _ _ _ _ h => h.elim⟩
/-- a pair of ints -/
def Pr (K : PySem.W.Frag) (H : Hp) (v : V) (t : Int) (b : Nat) : Prop := ∃ a, v = .ref a ∧ SqT K H a [.int t, .int b]
theorem Fr.pr {K : PySem.W.Frag} {H : Hp} {v : V} {q : Rat} (h : Fr K H v q) : Pr K H v q.num q.den := h
def rPr0 (K : PySem.W.Frag) : R2 := fun x y H Q => ∃ t b, Pr K H x t b ∧ y = .int 0 ∧ Q (.int t) H
def rPr1 (K : PySem.W.Frag) : R2 := fun x y H Q => ∃ t b, Pr K H x t b ∧ y = .int 1 ∧ Q (.int (b : Nat)) H
section
variable {X : Cx}
theorem ix_pr0 (K : PySem.W.Frag) (h : X.K = K := by rfl) : IxR X (rPr0 K) := h ▸ fun o i pins s σ H x y v u Q I rx ry ⟨t, b, ⟨a, e, hs⟩, hy, hq⟩ => ix_tup o i pins s σ H x y v u Q I rx ry ⟨a, _, 0, _, e, hy, hs, atI_nat (j := 0) rfl, hq⟩
theorem ix_pr1 (K : PySem.W.Frag) (h : X.K = K := by rfl) : IxR X (rPr1 K) := h ▸ fun o i pins s σ H x y v u Q I rx ry ⟨t, b, ⟨a, e, hs⟩, hy, hq⟩ => ix_tup o i pins s σ H x y v u Q I rx ry ⟨a, _, 1, _, e, hy, hs, atI_nat (j := 1) rfl, hq⟩
end
section
variable {P : Program} {w : World} {K : PySem.W.Frag} {mg : Str → Option Value} {base : Heap}
abbrev sLLow : Stmt := topS 97
abbrev nLLow : List Str := ["_law_top", "_law_bottom", "_law_one", "_law_two"]
theorem scLLow : FnScope nLLow ["_law_top", "_law_bottom"] (defScope sLLow) := ⟨rfl, rfl, rfl, by decide +kernel, rfl, by decide +kernel, by decide +kernel⟩
theorem c_llow (D : DefAt K mg "_law_low" sLLow ["_law_top", "_law_bottom"]) (T : Bn mg) : Cal P w K mg base 1 "_law_low" ["_law_top", "_law_bottom"] (spLowest K) := by
  refine D.cal fun f fd F => ?_
  refine F.ok scLLow (fun vs H Q E h => ?_) (fun cdv A outer s H vs Q E hr h => ?_)
  · obtain ⟨t, b, rfl, _⟩ := h
    rfl
  · obtain ⟨t, b, rfl, hb, hz, q⟩ := h
    refine ⟨_, pss_cons (ps_par (i := 2) (j := 3) rfl scLLow.nd rfl rfl (by decide) rfl rfl (pa_cons (pe_callB call_abs (by rfl) T.abs (by decide +kernel) (pa_cons (pv 0) pa_nil)) (pa_cons (pe_callB call_abs (by rfl) T.abs (by decide +kernel) (pa_cons (pv 1) pa_nil)) pa_nil)) (by rfl))
      (pss_cons (ps_while PassesOwn.never (pt_cmpR op_gt (pv 3) pe_int (nomark _)) (pss_one (ps_par (i := 2) (j := 3) rfl scLLow.nd rfl rfl (by decide) rfl rfl (pa_cons (pv 3) (pa_cons (pe_op op_modN (pe_callTy call_int1 (by rfl) T.int (by decide +kernel) (pa_cons (pv 2) pa_nil)) (pv 3)) pa_nil)) (by rfl))))
      (pss_one (ps_ret (pe_ifExp (pt_cmpR op_gt (pv 1) pe_int (nomark _)) (pe_tup (pa_cons (pe_op op_fdivW (pv 0) (pv 2)) (pa_cons (pe_op op_fdivW (pv 1) (pv 2)) pa_nil))) pe_never)))), ?_⟩
    have ea : (if t < 0 then -t else t) = (t.natAbs : Int) := by
      split <;> omega
    have eb : (if (b : Int) < 0 then -(b : Int) else b) = (b : Int) := by
      split <;> omega
    have hg : 0 < Nat.gcd t.natAbs b := Nat.gcd_pos_of_pos_right _ hb
    have hgz : (Nat.gcd t.natAbs b : Int).natAbs < 2 ^ 9000 := Nat.lt_of_le_of_lt (by rw [Int.natAbs_natCast]; exact Nat.gcd_le_right _ hb) hz
    have hd : ∀ i, CDivW i (Nat.gcd t.natAbs b : Nat) := fun i => wide_div (by omega) hgz (by decide) (by decide)
    refine ⟨_, rfl, t, rfl, _, rfl, b, rfl, _, _, rfl, ?_⟩
    refine while_by (fun σ H' => H' = H ∧ ∃ c d : Nat, σ = [some (.int t), some (.int b), some (.int c), some (.int d)] ∧ Nat.gcd c d = Nat.gcd t.natAbs b) (fun σ H' => match σ with
      | [_, _, _, some (.int d)] => d.toNat
      | _ => 0) ⟨rfl, t.natAbs, b, ?_, rfl⟩ ?_ ?_
    · rw [ea, eb]
      rfl
    · rintro σ H' ⟨rfl, c, d, rfl, e⟩
      refine ⟨_, rfl, _, _, rfl, rfl, _, rfl, ?_⟩
      by_cases hd' : (0 : Int) < d
      · rw [decide_eq_true hd']
        refine iteT ?_
        have hm : (c : Int).fmod d = ((c % d : Nat) : Int) := by
          rw [Int.fmod_eq_emod_of_nonneg _ (by omega)]
          rfl
        refine ⟨_, rfl, _, rfl, .inl ⟨c, rfl, _, rfl, _, _, rfl, rfl, by omega, _, _, rfl, ?_⟩⟩
        refine ⟨⟨rfl, d, c % d, ?_, ?_⟩, ?_⟩
        · show [some (V.int t), some (V.int b), some (V.int d), some (V.int ((c : Int).fmod d))] = _
          rw [hm]
        · rw [← e, Nat.gcd_comm c d, Nat.gcd_rec d c, Nat.gcd_comm]
        · show ((c : Int).fmod d).toNat < (d : Int).toNat
          rw [hm]
          have := Nat.mod_lt c (show d > 0 by omega)
          omega
      · rw [decide_eq_false hd']
        refine iteF ?_
        have d0 : d = 0 := by omega
        subst d0
        rw [Nat.gcd_zero_right] at e
        subst e
        refine ⟨_, rfl, _, _, rfl, rfl, _, rfl, ite2 (fun _ => ?_) (fun e => absurd (decide_eq_true (by omega)) e)⟩
        refine ⟨_, rfl, _, rfl, _, _, rfl, rfl, hd _, _, rfl, _, rfl, _, _, rfl, rfl, hd _, (by show 2 ≤ sizeLine; decide), fun p hp => ?_⟩
        refine q _ _ (Same.new hp) (fr_new ?_ ?_)
        · rw [Rat.num_mkRat, if_neg (by omega), Nat.gcd_comm b]
        · rw [Rat.den_mkRat, if_neg (by omega), Nat.gcd_comm b]
          rfl
    · rintro σ H' Q1 Q2 hq ⟨v, h1, i, j, h2, h3, k, h4, h5⟩
      exact ⟨v, h1, i, j, h2, h3, k, h4, hq _ _ h5⟩
abbrev sLPlus : Stmt := topS 98
theorem scLPlus : FnScope ["_law_one", "_law_two"] ["_law_one", "_law_two"] (defScope sLPlus) := ⟨rfl, rfl, rfl, by decide +kernel, rfl, by decide +kernel, by decide +kernel⟩
def spLPlus (K : PySem.W.Frag) : Sp := fun vs H Q _ => ∃ (x y : V) (t1 t2 : Int) (b1 b2 : Nat), vs = [x, y] ∧ Pr K H x t1 b1 ∧ Pr K H y t2 b2 ∧ 0 < b1 ∧ 0 < b2 ∧ t1.natAbs < 2 ^ 2000 ∧ t2.natAbs < 2 ^ 2000 ∧ b1 < 2 ^ 2000 ∧ b2 < 2 ^ 2000 ∧ ∀ H' v, Same H H' → Fr K H' v (mkRat (t1 * b2 + t2 * b1) (b1 * b2)) → Q v H'
theorem c_lplus (D : DefAt K mg "_law_plus" sLPlus ["_law_one", "_law_two"]) (Lo : Cal P w K mg base 1 "_law_low" ["_law_top", "_law_bottom"] (spLowest K)) : Cal P w K mg base 2 "_law_plus" ["_law_one", "_law_two"] (spLPlus K) := by
  refine D.cal fun f fd F => ?_
  refine F.ok scLPlus (fun vs H Q E h => ?_) (fun cdv A outer s H vs Q E hr h => ?_)
  · obtain ⟨x, y, t1, t2, b1, b2, rfl, _⟩ := h
    rfl
  · obtain ⟨x, y, t1, t2, b1, b2, rfl, hx, hy, p1, p2, z1, z2, z3, z4, q⟩ := h
    refine ⟨_, pss_one (ps_ret (pe_cal Lo hr (pa_cons (pe_op op_add (pe_op op_mulW (pe_ix (ix_pr0 K) (pv 0) pe_int (fun _ _ => rfl)) (pe_ix (ix_pr1 K) (pv 1) pe_int (fun _ _ => rfl))) (pe_op op_mulW (pe_ix (ix_pr0 K) (pv 1) pe_int (fun _ _ => rfl)) (pe_ix (ix_pr1 K) (pv 0) pe_int (fun _ _ => rfl))))
      (pa_cons (pe_op op_mulW (pe_ix (ix_pr1 K) (pv 0) pe_int (fun _ _ => rfl)) (pe_ix (ix_pr1 K) (pv 1) pe_int (fun _ _ => rfl))) pa_nil)))), ?_⟩
    have w3 : ((b1 : Nat) : Int).natAbs < 2 ^ 2000 := z3
    have w4 : ((b2 : Nat) : Int).natAbs < 2 ^ 2000 := z4
    have h9 : b1 * b2 < 2 ^ 9000 := by
      have h := Nat.mul_lt_mul'' z3 z4
      rw [← Nat.pow_add] at h
      exact Nat.lt_of_lt_of_le h (Nat.pow_le_pow_right (by decide) (by decide))
    refine ⟨_, rfl, t1, b1, hx, rfl, _, rfl, t2, b2, hy, rfl, _, _, rfl, rfl, sz_mul z1 w4, _, rfl, t2, b2, hy, rfl, _, rfl, t1, b1, hx, rfl, _, _, rfl, rfl, sz_mul z2 w3, _, _, rfl, rfl, _, rfl, t1, b1, hx, rfl, _, rfl, t2, b2, hy, rfl, _, _, rfl, rfl, sz_mul w3 w4,
      _, b1 * b2, rfl, Nat.mul_pos p1 p2, h9, fun H' v hs hv => q _ _ hs hv⟩
abbrev sLLess : Stmt := topS 99
theorem scLLess : FnScope ["_law_one", "_law_two"] ["_law_one", "_law_two"] (defScope sLLess) := ⟨rfl, rfl, rfl, by decide +kernel, rfl, by decide +kernel, by decide +kernel⟩
def spLLess (K : PySem.W.Frag) : Sp := fun vs H Q _ => ∃ (x y : V) (a b : Rat), vs = [x, y] ∧ Fr K H x a ∧ Fr K H y b ∧ Sz 2000 a ∧ Sz 2000 b ∧ Q (.bl (decide (a < b))) H
theorem c_lless (D : DefAt K mg "_law_is_less" sLLess ["_law_one", "_law_two"]) : Cal P w K mg base 1 "_law_is_less" ["_law_one", "_law_two"] (spLLess K) := by
  refine D.cal fun f fd F => ?_
  refine F.ok scLLess (fun vs H Q E h => ?_) (fun cdv A outer s H vs Q E hr h => ?_)
  · obtain ⟨x, y, a, b, rfl, _⟩ := h
    rfl
  · obtain ⟨x, y, a, b, rfl, ha, hb, za, zb, q⟩ := h
    refine ⟨_, pss_one (ps_ret (pe_cmpR op_lt (pe_op op_mulW (pe_num K 0) (pe_den K 1)) (pe_op op_mulW (pe_num K 1) (pe_den K 0)) (by rfl))), ?_⟩
    refine ⟨_, rfl, a, ha, rfl, _, rfl, b, hb, rfl, _, _, rfl, rfl, sz_mul za.1 zb.d, _, rfl, b, hb, rfl, _, rfl, a, ha, rfl, _, _, rfl, rfl, sz_mul zb.1 za.d, _, _, rfl, rfl, ?_⟩
    rw [show decide (a < b) = decide (a.num * ↑b.den < b.num * ↑a.den) from decide_eq_decide.mpr (Rat.lt_iff a b)] at q
    exact q
abbrev sLMost : Stmt := topS 114
theorem scLMost : FnScope ["_law_one", "_law_two"] ["_law_one", "_law_two"] (defScope sLMost) := ⟨rfl, rfl, rfl, by decide +kernel, rfl, by decide +kernel, by decide +kernel⟩
def spLMost (K : PySem.W.Frag) : Sp := fun vs H Q _ => ∃ (x y : V) (a b : Rat), vs = [x, y] ∧ Fr K H x a ∧ Fr K H y b ∧ Sz 2000 a ∧ Sz 2000 b ∧ Q (.bl (decide (a ≤ b))) H
theorem c_lmost (D : DefAt K mg "_law_at_most" sLMost ["_law_one", "_law_two"]) (Le : Cal P w K mg base 1 "_law_is_less" ["_law_one", "_law_two"] (spLLess K)) : Cal P w K mg base 2 "_law_at_most" ["_law_one", "_law_two"] (spLMost K) := by
  refine D.cal fun f fd F => ?_
  refine F.ok scLMost (fun vs H Q E h => ?_) (fun cdv A outer s H vs Q E hr h => ?_)
  · obtain ⟨x, y, a, b, rfl, _⟩ := h
    rfl
  · obtain ⟨x, y, a, b, rfl, ha, hb, za, zb, q⟩ := h
    refine ⟨_, pss_one (ps_ret (pe_not (pe_cal Le hr (pa_cons (pv 1) (pa_cons (pv 0) pa_nil))))), ?_⟩
    refine ⟨_, rfl, _, rfl, y, x, b, a, rfl, hb, ha, zb, za, _, rfl, ?_⟩
    rw [show (!decide (b < a)) = decide (a ≤ b) by
      by_cases h : a ≤ b
      · rw [decide_eq_true h, decide_eq_false (by grind)]
        rfl
      · rw [decide_eq_false h, decide_eq_true (by grind)]
        rfl]
    exact q
end
end Cs
set_option Elab.async false
set_option linter.all false
set_option maxRecDepth 100000
set_option maxHeartbeats 8000000
/-! the law's sum and span -/
namespace Cs
open PySem PySem.Spec PyProof.Rows L2
theorem mk_plus (q r : Rat) (n : Int) : mkRat (q.num * (r.den : Int) + r.num * n * (q.den : Int)) (q.den * r.den) = q + r * (n : Rat) := by
  have h1 : mkRat (r.num * n) r.den = r * (n : Rat) := by
    rw [Rat.mul_def, Rat.normalize_eq_mkRat, Rat.num_intCast, Rat.den_intCast, Nat.mul_one]
  have h2 := Rat.mkRat_add_mkRat q.num (r.num * n) (d₁ := q.den) (d₂ := r.den) q.den_nz r.den_nz
  rw [Rat.mkRat_self, h1] at h2
  exact h2.symm
section
variable {P : Program} {w : World} {K : PySem.W.Frag} {mg : Str → Option Value} {base : Heap}
abbrev sLSum : Stmt := topS 100
abbrev nLSum : List Str := ["_law_shares_here", "_law_numbers", "_law_found", "_law_share", "_law_number_here"]
theorem scLSum : FnScope nLSum ["_law_shares_here", "_law_numbers"] (defScope sLSum) := ⟨rfl, rfl, rfl, by decide +kernel, rfl, by decide +kernel, by decide +kernel⟩
theorem c_lsum (D : DefAt K mg "_law_sum" sLSum ["_law_shares_here", "_law_numbers"]) (T : Bn mg) (Pl : Cal P w K mg base 2 "_law_plus" ["_law_one", "_law_two"] (spLPlus K)) : Cal P w K mg base 3 "_law_sum" ["_law_shares_here", "_law_numbers"] (spWeighed K) := by
  refine D.cal fun f fd F => ?_
  refine F.ok scLSum (fun vs H Q E h => ?_) (fun cdv A outer s H vs Q E hr h => ?_)
  · obtain ⟨X, v, vn, ps, ns, rfl, _⟩ := h
    rfl
  · obtain ⟨X, v, vn, ps, ns, rfl, hX, hv, hn, hlen, hl, hz, hnz, q⟩ := h
    refine ⟨_, pss_cons (ps_set (i := 2) scLSum.nd rfl (.inl rfl) (pe_tup (pa_cons pe_int (pa_cons pe_int pa_nil)))) (pss_cons (ps_for PassesOwn.never rfl (RZ.pi_zipA (by rfl) T.zip (pa_cons (pv 0) (pa_cons (pv 1) pa_nil))) (pg_tup rfl (pgs_cons (pg_name (i := 3) scLSum.nd rfl (.inl rfl)) (pgs_cons (pg_name (i := 4) scLSum.nd rfl (.inl rfl)) pgs_nil)))
        (pss_one (ps_set (i := 2) scLSum.nd rfl (.inl rfl) (pe_cal Pl hr (pa_cons (pv 2) (pa_cons (pe_tup (pa_cons (pe_op op_mulW (pe_num K 3) (pv 4)) (pa_cons (pe_den K 3) pa_nil))) pa_nil)))))) (pss_one (ps_ret (pv 2)))), ?_⟩
    obtain ⟨a, xs, rfl, hs, hd⟩ := hv.tuple
    obtain ⟨b, ys, rfl, hsb, hdb⟩ := hn.tuple
    have lx : xs.length = ps.length := by rw [hd.length, frs_len]
    have ly : ys.length = ns.length := by rw [hdb.length, List.length_map]
    have hs0 := cut_same.tup hs
    have hsb0 := cut_same.tup hsb
    refine ⟨(by show 2 ≤ sizeLine; decide), fun t nt => ?_⟩
    have s1 : Same H (upd H t (.tup [.int 0, .int 1])) := Same.new nt
    have f0 : Fr K (upd H t (.tup [.int 0, .int 1])) (.ref t) 0 := fr_new rfl rfl
    generalize (upd H t (.tup [.int 0, .int 1])) = H1 at s1 f0 ⊢
    have zw : SzAll 420 (List.zipWith (fun p (n : Int) => p * (n : Rat)) ps ns) := fun r hr2 => by
      obtain ⟨i, hi, e⟩ := List.mem_iff_getElem.mp hr2
      rw [List.getElem_zipWith] at e
      rw [← e]
      exact (sz_times (hz _ (List.getElem_mem _)) (sz_num (hnz _ (List.getElem_mem _)) (by decide))).mono (by decide)
    have lw : (List.zipWith (fun p (n : Int) => p * (n : Rat)) ps ns).length = ps.length := by
      rw [List.length_zipWith]
      omega
    refine ⟨_, rfl, _, rfl, a, b, xs, ys, rfl, .inr ⟨s1.tup hs0, s1.tup hsb0, ?_⟩⟩
    refine for_it (walk_zipT (n := ps.length) (by omega)) (fun i σ H2 => ∃ vf f3 f4, σ = [some (.ref a), some (.ref b), some vf, f3, f4] ∧ Same H H2 ∧ Fr K H2 vf (mTotal ((List.zipWith (fun p (n : Int) => p * (n : Rat)) ps ns).take i))) ⟨_, none, none, rfl, s1, f0⟩ (fun i σ H2 _ ⟨_, _, _, _, s2, _⟩ => ⟨s2.tup hs0, s2.tup hsb0⟩) ?_ ?_
    · rintro i x σ H2 H3 hi ⟨vf, f3, f4, rfl, s2, hvf⟩ ⟨T2, x, y, rfl, nT, rfl, ex, ey⟩
      obtain ⟨p, ep, hp⟩ := frs_at hd ex
      obtain ⟨n, en, rfl⟩ := ints_at hdb ey
      have s3 : Same H2 (upd H2 T2 (.tup [x, .int n])) := Same.new nT
      have zp := hz p (List.mem_of_getElem? ep)
      have zn := hnz n (List.mem_of_getElem? en)
      have hp3 := hp.same (cut_same.trans (s2.trans s3))
      refine g_pair ?_
      have zpn : (p.num * n).natAbs < 2 ^ 420 := by
        have := wide_lt zp.1 zn
        exact this
      refine ⟨_, rfl, _, rfl, p, hp3, rfl, _, rfl, _, _, rfl, rfl, wide_mul zp.1 zn (by decide) (by decide) (by decide), _, rfl, p, hp3, rfl, (by show 2 ≤ sizeLine; decide), fun t4 nt4 => ?_⟩
      have s4 := Same.new (o := .tup [.int (p.num * n), .int p.den]) nt4
      have zf := mTotal_sz zw i (by omega)
      have zf2 : Sz 2000 (mTotal ((List.zipWith (fun p (n : Int) => p * (n : Rat)) ps ns).take i)) := zf.mono (by omega)
      refine ⟨vf, .ref t4, _, _, _, p.den, rfl, (hvf.same (s3.trans s4)).pr, ⟨t4, rfl, .inl (.inl upd_same)⟩, Rat.den_pos _, p.den_pos, zf2.1, Nat.lt_of_lt_of_le zpn (Nat.pow_le_pow_right (by decide) (by decide)), zf2.2, (zp.mono (by decide)).2, fun H5 v5 s5 hv5 => ?_⟩
      refine ⟨v5, _, _, rfl, s2.trans (s3.trans (s4.trans s5)), ?_⟩
      have ez : (List.zipWith (fun p (n : Int) => p * (n : Rat)) ps ns)[i]? = some (p * (n : Rat)) := by
        rw [List.getElem?_zipWith, ep, en]
      have e : mTotal ((List.zipWith (fun p (n : Int) => p * (n : Rat)) ps ns).take (i + 1)) = mTotal ((List.zipWith (fun p (n : Int) => p * (n : Rat)) ps ns).take i) + p * (n : Rat) := by
        rw [List.take_add_one, ez]
        exact List.foldl_append
      rw [e, ← mk_plus]
      exact hv5
    · rintro σ H2 ⟨vf, f3, f4, rfl, s2, hvf⟩
      rw [List.take_of_length_le (by omega)] at hvf
      exact ⟨_, rfl, q H2 _ s2 hvf⟩
abbrev sLSpan : Stmt := topS 101
abbrev nLSpan : List Str := ["_law_some", "_law_least", "_law_greatest", "_law_each"]
theorem scLSpan : FnScope nLSpan ["_law_some"] (defScope sLSpan) := ⟨rfl, rfl, rfl, by decide +kernel, rfl, by decide +kernel, by decide +kernel⟩
def spLSpan (K : PySem.W.Frag) : Sp := fun vs H Q _ => ∃ (X : List Addr) (v : V) (qs : List Rat), vs = [v] ∧ Xin X H ∧ Dp K (cutH X H) v (fRow qs) ∧ qs ≠ [] ∧ qs.length ≤ 1000 ∧ SzAll 2000 qs ∧ ∀ H' T l g q, Same H H' → H' T = some (.tup [l, g]) → Fr K H' l q → q ∈ qs → (∀ r ∈ qs, q ≤ r) → Q (.ref T) H'
theorem c_lspan (D : DefAt K mg "_law_span" sLSpan ["_law_some"]) (Le : Cal P w K mg base 1 "_law_is_less" ["_law_one", "_law_two"] (spLLess K)) : Cal P w K mg base 2 "_law_span" ["_law_some"] (spLSpan K) := by
  refine D.cal fun f fd F => ?_
  refine F.ok scLSpan (fun vs H Q E h => ?_) (fun cdv A outer s H vs Q E hr h => ?_)
  · obtain ⟨X, v, qs, rfl, _⟩ := h
    rfl
  · obtain ⟨X, v, qs, rfl, hX, hv, ne, hl, hz, q⟩ := h
    refine ⟨_, pss_cons (ps_par (i := 1) (j := 2) rfl scLSpan.nd rfl rfl (by decide) rfl rfl (pa_cons (pe_ix (ix_lstK K) (pv 0) pe_int (fun _ _ => rfl)) (pa_cons (pe_ix (ix_lstK K) (pv 0) pe_int (fun _ _ => rfl)) pa_nil)) (by rfl))
      (pss_cons (ps_for PassesOwn.never rfl (pi_list (pv 0)) (pg_name (i := 3) scLSpan.nd rfl (.inl rfl))
        (pss_cons (ps_set (i := 1) scLSpan.nd rfl (.inl rfl) (pe_ifExp (pt_val (pe_cal Le hr (pa_cons (pv 3) (pa_cons (pv 1) pa_nil)))) (pv 3) (pv 1)))
        (pss_one (ps_set (i := 2) scLSpan.nd rfl (.inl rfl) (pe_ifExp (pt_val (pe_cal Le hr (pa_cons (pv 2) (pa_cons (pv 3) pa_nil)))) (pv 3) (pv 2))))))
      (pss_one (ps_ret (pe_tup (pa_cons (pv 1) (pa_cons (pv 2) pa_nil)))))), ?_⟩
    obtain ⟨a, xs, rfl, hs, hd⟩ := hv.list
    have lx : xs.length = qs.length := by rw [hd.length, frs_len]
    have hs0 := cut_same.seq hs
    have h0 : 0 < qs.length := List.length_pos_iff.mpr ne
    obtain ⟨v0, ev0, hv0⟩ := frs_get hd (List.getElem?_eq_getElem h0)
    have hv0 := hv0.same cut_same
    refine ⟨_, rfl, a, xs, _, _, rfl, rfl, hs0, atI_nat (j := 0) ev0, _, rfl, a, xs, _, _, rfl, rfl, hs0, atI_nat (j := 0) ev0, _, _, rfl, ?_⟩
    refine ⟨_, rfl, a, rfl, ⟨_, hs0⟩, ?_⟩
    refine for_it walk_list (fun i σ H2 => H2 = H ∧ ∃ vl vg f3 l g, σ = [some (.ref a), some vl, some vg, f3] ∧ Fr K H vl l ∧ Fr K H vg g ∧ l ∈ qs ∧ g ∈ qs ∧ ∀ j r, j < i → qs[j]? = some r → l ≤ r) ⟨rfl, v0, v0, none, _, _, rfl, hv0, hv0, List.getElem_mem h0, List.getElem_mem h0, fun j r hj => by omega⟩ (fun i σ H2 _ h => by rw [h.1]; exact hs0) ?_ ?_
    · rintro i x σ H2 H3 hi ⟨rfl, vl, vg, f3, l, g, rfl, hl', hg', ml, mg', hle⟩ ⟨rfl, ex⟩
      obtain ⟨r, er, hr2⟩ := frs_at hd ex
      have hr2 := hr2.same cut_same
      have mr := List.mem_of_getElem? er
      refine ⟨_, rfl, _, rfl, x, vl, r, l, rfl, hr2, hl', hz r mr, hz l ml, _, rfl, ?_⟩
      have hle1 : r < l → ∀ j r', j < i + 1 → qs[j]? = some r' → r ≤ r' := fun hlt j r' hj e => by
        by_cases hji : j = i
        · rw [hji, er] at e
          cases e
          exact Rat.le_refl
        · have := hle j r' (by omega) e
          grind
      have hle2 : ¬ r < l → ∀ j r', j < i + 1 → qs[j]? = some r' → l ≤ r' := fun hlt j r' hj e => by
        by_cases hji : j = i
        · rw [hji, er] at e
          cases e
          grind
        · exact hle j r' (by omega) e
      refine ite2 (fun hlt => ⟨_, rfl, ?_⟩) (fun hlt => ⟨_, rfl, ?_⟩)
      · have hlt : r < l := of_decide_eq_true hlt
        refine ⟨_, rfl, _, rfl, vg, x, g, r, rfl, hg', hr2, hz g mg', hz r mr, _, rfl, ite2 (fun _ => ⟨_, rfl, ?_⟩) (fun _ => ⟨_, rfl, ?_⟩)⟩
        · exact ⟨rfl, x, x, _, r, r, rfl, hr2, hr2, mr, mr, hle1 hlt⟩
        · exact ⟨rfl, x, vg, _, r, g, rfl, hr2, hg', mr, mg', hle1 hlt⟩
      · have hlt : ¬ r < l := fun z => hlt (decide_eq_true z)
        refine ⟨_, rfl, _, rfl, vg, x, g, r, rfl, hg', hr2, hz g mg', hz r mr, _, rfl, ite2 (fun _ => ⟨_, rfl, ?_⟩) (fun _ => ⟨_, rfl, ?_⟩)⟩
        · exact ⟨rfl, vl, x, _, l, r, rfl, hl', hr2, ml, mr, hle2 hlt⟩
        · exact ⟨rfl, vl, vg, _, l, g, rfl, hl', hg', ml, mg', hle2 hlt⟩
    · rintro σ H2 ⟨rfl, vl, vg, f3, l, g, rfl, hl', hg', ml, mg', hle⟩
      refine ⟨_, rfl, _, rfl, (by show 2 ≤ sizeLine; decide), fun p np => ?_⟩
      have s1 := Same.new (o := .tup [vl, vg]) np
      refine q _ p vl vg l s1 upd_same (hl'.same s1) ml fun r hr2 => ?_
      obtain ⟨j, hj, e⟩ := List.mem_iff_getElem.mp hr2
      exact hle j r (by omega) (by rw [List.getElem?_eq_getElem hj, e])
end
end Cs
set_option Elab.async false
set_option linter.all false
set_option maxRecDepth 100000
set_option maxHeartbeats 8000000
/-! the law's cuts -/
namespace Cs
open PySem PySem.Spec PyProof.Rows L2
abbrev Cut := Int × Int × Int
def dCut (c : Cut) : PyData := .tuple [.int c.1, .int c.2.1, .int c.2.2]
def cut3 : List Cut := [(-1, 0, 0), (0, -1, 0), (1, 1, 1)]
def cutT (tall : Nat) : List Cut := if tall < 3 then [(-1, -1, -1)] else []
def cutU (tall : Nat) : List Cut := if tall < 2 then [(0, 1, 0)] else []
def wThree (tall : Nat) (w : Want) : List Int := w.1 ++ List.replicate (3 - tall) 0
def wCut (tall : Nat) (w : Want) : Cut := ((wThree tall w).getD 0 0 - (wThree tall w).getD 2 0, (wThree tall w).getD 1 0 - (wThree tall w).getD 2 0, w.2 - (wThree tall w).getD 2 0)
def mCuts (tall : Nat) (ws : List Want) : List Cut := cut3 ++ cutT tall ++ cutU tall ++ ws.map (wCut tall)
/-- wants that are taken -/
structure WantsOk (tall : Nat) (ws : List Want) : Prop where
  t1 : 1 ≤ tall
  t3 : tall ≤ 3
  n6 : ws.length ≤ 6
  len : ∀ w ∈ ws, w.1.length = tall
  bd : ∀ w ∈ ws, ∀ n ∈ w.1, -100 ≤ n ∧ n ≤ 100
  bb : ∀ w ∈ ws, -100 ≤ w.2 ∧ w.2 ≤ 100
theorem want_of {K : PySem.W.Frag} {H : Hp} {v : V} {w : Want} (h : Dp K H v (dWant w)) : ∃ a b, v = .ref a ∧ SqT K H a [b, .int w.2] ∧ Dp K H b (.list (w.1.map .int)) := by
  obtain ⟨a, xs, rfl, hs, ha⟩ := h.tuple
  cases ha with
  | cons h1 h2 =>
    cases h2 with
    | cons h3 h4 =>
      cases h4
      cases h3
      exact ⟨a, _, rfl, hs, h1⟩
theorem wants_at {K : PySem.W.Frag} {H : Hp} {xs : List V} {ws : List Want} {i : Nat} {x : V} (h : DpAll K H xs (ws.map dWant)) (e : xs[i]? = some x) : ∃ w, ws[i]? = some w ∧ Dp K H x (dWant w) := by
  obtain ⟨d, e1, e2⟩ := h.at e
  rw [List.getElem?_map] at e1
  cases e3 : ws[i]? with
  | none =>
    rw [e3] at e1
    cases e1
  | some q =>
    rw [e3] at e1
    cases e1
    exact ⟨q, rfl, e2⟩
section
variable {P : Program} {w : World} {K : PySem.W.Frag} {mg : Str → Option Value} {base : Heap}
/-- what is known while the cuts are gathered -/
def CutInv (K : PySem.W.Frag) (X : List Addr) (H : Hp) (L : Addr) (H2 : Hp) (cs : List Cut) : Prop := Same H H2 ∧ ∃ acc, H2 L = some (.lst acc) ∧ DpAll K (cutH (L :: X) H2) acc (cs.map dCut)
theorem cut_app {X : List Addr} {H H2 H3 : Hp} {L p : Addr} {cs : List Cut} {c : Cut} {acc : List V} (hX : Xin X H) (hL : H L = none) (s2 : Same H H2) (eL : H2 L = some (.lst acc)) (hacc : DpAll K (cutH (L :: X) H2) acc (cs.map dCut)) (s3 : Same H2 H3) (np : H3 p = none) :
    (upd H3 p (.tup [.int c.1, .int c.2.1, .int c.2.2])) L = some (.lst acc) ∧ CutInv K X H L (upd (upd H3 p (.tup [.int c.1, .int c.2.1, .int c.2.2])) L (.lst (acc ++ [.ref p]))) (cs ++ [c]) := by
  have s4 := Same.new (o := .tup [.int c.1, .int c.2.1, .int c.2.2]) np
  have s24 := s3.trans s4
  refine ⟨s24 _ _ eL, fun b o e => ?_, acc ++ [.ref p], upd_same, ?_⟩
  · rw [upd_ne (ne_of_none e hL)]
    exact s24 _ _ (s2 b o e)
  · rw [cut_in List.mem_cons_self, List.map_append]
    have hX3 : Xin (L :: X) H3 := ((hX.same (s2.trans s3))).cons (s3 _ _ eL)
    exact (hacc.same (same_cut s24)).append (.cons (.tup (.inl (.inl (cut_upd (hX3.new np)))) (.cons (.int _) (.cons (.int _) (.cons (.int _) .nil)))) .nil)
theorem shared {Z : Prop} {P G : Hp → Prop} (mk : (∀ H, P H → G H) → Z) (key : ∀ H, P H → G H) : Z := mk key
abbrev sLCuts : Stmt := topS 111
abbrev nLCuts : List Str := ["_law_tall", "_law_wants_here", "_law_found", "_law_numbers", "_law_bound", "_law_all_three"]
theorem scLCuts : FnScope nLCuts ["_law_tall", "_law_wants_here"] (defScope sLCuts) := ⟨rfl, rfl, rfl, by decide +kernel, rfl, by decide +kernel, by decide +kernel⟩
def spLCuts (K : PySem.W.Frag) : Sp := fun vs H Q _ => ∃ (X : List Addr) (vw : V) (tall : Nat) (ws : List Want), vs = [.int tall, vw] ∧ Xin X H ∧ Dp K (cutH X H) vw (.list (ws.map dWant)) ∧ WantsOk tall ws ∧ ∀ H' v, Same H H' → RawL K X H' v ((mCuts tall ws).map dCut) → Q v H'
theorem c_lcuts (D : DefAt K mg "_law_cuts" sLCuts ["_law_tall", "_law_wants_here"]) (T : Bn mg) : Cal P w K mg base 1 "_law_cuts" ["_law_tall", "_law_wants_here"] (spLCuts K) := by
  refine D.cal fun f fd F => ?_
  refine F.ok scLCuts (fun vs H Q E h => ?_) (fun cdv A outer s H vs Q E hr h => ?_)
  · obtain ⟨X, vw, tall, ws, rfl, _⟩ := h
    rfl
  · obtain ⟨X, vw, tall, ws, rfl, hX, hw, ok, q⟩ := h
    refine ⟨_, pss_cons (ps_set (i := 2) scLCuts.nd rfl (.inl rfl) (pe_lst (pa_cons (pe_tup (pa_cons (pe_un un_neg pe_int) (pa_cons pe_int (pa_cons pe_int pa_nil)))) (pa_cons (pe_tup (pa_cons pe_int (pa_cons (pe_un un_neg pe_int) (pa_cons pe_int pa_nil)))) (pa_cons (pe_tup (pa_cons pe_int (pa_cons pe_int (pa_cons pe_int pa_nil)))) pa_nil)))))
      (pss_cons (ps_if (pt_cmpR op_lt (pv 0) pe_int (nomark _)) (pss_one (ps_expr (pe_bm PySem.F.plainAttrs_list PySem.F.slot_list_append PySem.F.type_list_append mt_append (pv 2) (pa_cons (pe_tup (pa_cons (pe_un un_neg pe_int) (pa_cons (pe_un un_neg pe_int) (pa_cons (pe_un un_neg pe_int) pa_nil)))) pa_nil)))) pss_nil)
      (pss_cons (ps_if (pt_cmpR op_lt (pv 0) pe_int (nomark _)) (pss_one (ps_expr (pe_bm PySem.F.plainAttrs_list PySem.F.slot_list_append PySem.F.type_list_append mt_append (pv 2) (pa_cons (pe_tup (pa_cons pe_int (pa_cons pe_int (pa_cons pe_int pa_nil)))) pa_nil)))) pss_nil)
      (pss_cons (ps_for PassesOwn.never rfl (pi_list (pv 1)) (pg_tup rfl (pgs_cons (pg_name (i := 3) scLCuts.nd rfl (.inl rfl)) (pgs_cons (pg_name (i := 4) scLCuts.nd rfl (.inl rfl)) pgs_nil)))
        (pss_cons (ps_set (i := 5) scLCuts.nd rfl (.inl rfl) (pe_op op_cat (pe_callTy call_list_of (by rfl) T.list (by decide +kernel) (pa_cons (pv 3) pa_nil)) (pe_op op_rep (pe_lst (pa_cons pe_int pa_nil)) (pe_op op_sub pe_int (pv 0)))))
        (pss_one (ps_expr (pe_bm PySem.F.plainAttrs_list PySem.F.slot_list_append PySem.F.type_list_append mt_append (pv 2) (pa_cons (pe_tup (pa_cons (pe_op op_sub (pe_ix (ix_lstK K) (pv 5) pe_int (fun _ _ => rfl)) (pe_ix (ix_lstK K) (pv 5) pe_int (fun _ _ => rfl))) (pa_cons (pe_op op_sub (pe_ix (ix_lstK K) (pv 5) pe_int (fun _ _ => rfl)) (pe_ix (ix_lstK K) (pv 5) pe_int (fun _ _ => rfl)))
          (pa_cons (pe_op op_sub (pv 4) (pe_ix (ix_lstK K) (pv 5) pe_int (fun _ _ => rfl))) pa_nil)))) pa_nil))))))
      (pss_one (ps_ret (pv 2)))))), ?_⟩
    obtain ⟨aw, xs, rfl, hs, hd⟩ := hw.list
    have lx : xs.length = ws.length := by rw [hd.length, List.length_map]
    have t1 := ok.t1
    have t3 := ok.t3
    have n6 := ok.n6
    have hs0 := cut_same.seq hs
    refine ⟨_, rfl, (by show 3 ≤ sizeLine; decide), fun p1 np1 => ⟨_, rfl, (by show 3 ≤ sizeLine; decide), fun p2 np2 => ⟨(by show 3 ≤ sizeLine; decide), fun p3 np3 => ⟨(by show 3 ≤ sizeLine; decide), fun L hL3 => ?_⟩⟩⟩⟩
    have a1 := Same.new (o := .tup [.int (-1), .int 0, .int 0]) np1
    have a2 := Same.new (o := .tup [.int 0, .int (-1), .int 0]) np2
    have a3 := Same.new (o := .tup [.int 1, .int 1, .int 1]) np3
    have e1 := a3 _ _ (a2 _ _ (upd_same (H := H) (a := p1) (o := .tup [.int (-1), .int 0, .int 0])))
    have e2 := a3 _ _ (upd_same (H := (upd H p1 (.tup [.int (-1), .int 0, .int 0]))) (a := p2) (o := .tup [.int 0, .int (-1), .int 0]))
    have e3 := upd_same (H := (upd (upd H p1 (.tup [.int (-1), .int 0, .int 0])) p2 (.tup [.int 0, .int (-1), .int 0]))) (a := p3) (o := .tup [.int 1, .int 1, .int 1])
    have s03 := a1.trans (a2.trans a3)
    generalize (upd (upd (upd H p1 (.tup [.int (-1), .int 0, .int 0])) p2 (.tup [.int 0, .int (-1), .int 0])) p3 (.tup [.int 1, .int 1, .int 1])) = H3 at e1 e2 e3 s03 hL3 ⊢
    have hL : H L = none := by
      cases e : H L with
      | none => rfl
      | some o =>
        rw [s03 _ _ e] at hL3
        cases hL3
    have nLX : L ∉ X := hX.new hL
    have hX3 := hX.same s03
    have inv0 : CutInv K X H L (upd H3 L (.lst [.ref p1, .ref p2, .ref p3])) cut3 := by
      refine ⟨s03.trans (Same.new hL3), _, upd_same, ?_⟩
      rw [cut_in List.mem_cons_self]
      have tt : ∀ {p : Addr} {a b c : Int}, H3 p = some (.tup [.int a, .int b, .int c]) → Dp K (cutH (L :: X) H3) (.ref p) (dCut (a, b, c)) := fun {p a b c} e => by
        have h1 := tup_cut (K := K) (.inl (.inl e)) hX3
        exact .tup ((cut_less hL3).tup h1) (.cons (.int _) (.cons (.int _) (.cons (.int _) .nil)))
      exact .cons (tt e1) (.cons (tt e2) (.cons (tt e3) .nil))
    generalize (upd H3 L (.lst [.ref p1, .ref p2, .ref p3])) = H4 at inv0 ⊢
    have l5 : (cut3 ++ cutT tall ++ cutU tall).length ≤ 5 := by
      unfold cut3 cutT cutU
      split <;> split <;> simp
    -- the first if
    apply shared (P := fun H6 => CutInv K X H L H6 (cut3 ++ cutT tall))
    case mk =>
      intro key
      refine ⟨_, rfl, _, _, rfl, rfl, _, rfl, ?_⟩
      by_cases h : ¬ tall < 3
      · rw [decide_eq_false (by omega)]
        refine iteF (key H4 ?_)
        have e : cutT tall = [] := by
          unfold cutT
          rw [if_neg h]
        rw [e, List.append_nil]
        exact inv0
      · have h : tall < 3 := Decidable.not_not.mp h
        rw [decide_eq_true (by omega)]
        obtain ⟨s2, acc, eL, hacc⟩ := inv0
        refine iteT ⟨_, rfl, .inl ⟨rfl, _, .inl (.inl eL)⟩, _, rfl, _, rfl, _, rfl, (by show 3 ≤ sizeLine; decide), fun p np => ?_⟩
        obtain ⟨c1, c2⟩ := cut_app (c := (-1, -1, -1)) hX hL s2 eL hacc (Same.refl _) np
        refine ⟨L, acc, _, rfl, rfl, c1, small1000 (by rw [hacc.length]; decide), key _ ?_⟩
        have e : cutT tall = [(-1, -1, -1)] := by
          unfold cutT
          rw [if_pos h]
        rw [e]
        exact c2
    case key =>
    intro H5 inv5
    -- the second if
    apply shared (P := fun H6 => CutInv K X H L H6 (cut3 ++ cutT tall ++ cutU tall))
    case mk =>
      intro key
      refine ⟨_, rfl, _, _, rfl, rfl, _, rfl, ?_⟩
      by_cases h : ¬ tall < 2
      · rw [decide_eq_false (by omega)]
        refine iteF (key H5 ?_)
        have e : cutU tall = [] := by
          unfold cutU
          rw [if_neg h]
        rw [e, List.append_nil]
        exact inv5
      · have h : tall < 2 := Decidable.not_not.mp h
        rw [decide_eq_true (by omega)]
        obtain ⟨s2, acc, eL, hacc⟩ := inv5
        refine iteT ⟨_, rfl, .inl ⟨rfl, _, .inl (.inl eL)⟩, (by show 3 ≤ sizeLine; decide), fun p np => ?_⟩
        obtain ⟨c1, c2⟩ := cut_app (c := (0, 1, 0)) hX hL s2 eL hacc (Same.refl _) np
        have l4 : acc.length ≤ 1000 := by
          rw [hacc.length, List.length_map, List.length_append]
          unfold cut3 cutT
          split <;> simp
        refine ⟨L, acc, _, rfl, rfl, c1, small1000 l4, key _ ?_⟩
        have e : cutU tall = [(0, 1, 0)] := by
          unfold cutU
          rw [if_pos h]
        rw [e]
        exact c2
    case key =>
    intro H6 inv6
    -- the wants
    have s6 := inv6.1
    refine ⟨_, rfl, aw, rfl, ⟨_, s6.seq hs0⟩, ?_⟩
    refine for_it walk_list (fun i σ H2 => ∃ f3 f4 f5, σ = [some (.int tall), some (.ref aw), some (.ref L), f3, f4, f5] ∧ CutInv K X H L H2 (cut3 ++ cutT tall ++ cutU tall ++ (ws.take i).map (wCut tall))) ⟨none, none, none, rfl, by simpa using inv6⟩ (fun i σ H2 _ ⟨_, _, _, _, h⟩ => h.1.seq hs0) ?_ ?_
    · rintro i x σ H2 H7 hi ⟨f3, f4, f5, rfl, s2, acc, eL, hacc⟩ ⟨rfl, ex⟩
      obtain ⟨w0, ew, hw0⟩ := wants_at hd ex
      obtain ⟨a0, b0, rfl, hsa, hsb⟩ := want_of (hw0.same (cut_same.trans s2))
      obtain ⟨al, rfl, hsl⟩ := ints_of hsb
      have hlen := ok.len w0 (List.mem_of_getElem? ew)
      refine ⟨a0, _, rfl, hsa, rfl, _, _, rfl, _, _, rfl, rfl, ?_⟩
      refine ⟨_, rfl, al, _, rfl, .inl hsl, fun q1 nq1 => ?_⟩
      have s3 : Same H7 (upd H7 q1 (.lst (w0.1.map V.int))) := Same.new nq1
      refine ⟨(by show 1 ≤ sizeLine; decide), fun q2 nq2 => ?_⟩
      have s4 : Same (upd H7 q1 (.lst (w0.1.map V.int))) (upd (upd H7 q1 (.lst (w0.1.map V.int))) q2 (.lst [.int 0])) := Same.new nq2
      have et : (3 : Int) - (tall : Nat) = ((3 - tall : Nat) : Int) := by omega
      refine ⟨_, rfl, _, _, rfl, rfl, ?_⟩
      show rRep (.ref q2) (.int ((3 : Int) - (tall : Nat))) _ _
      rw [et]
      refine rep_read upd_same (by omega) fun q3 nq3 => ?_
      have s5 := Same.new (o := .lst (List.replicate (3 - tall) (.int 0))) nq3
      have e1 := s5 _ _ (s4 _ _ (upd_same (H := H7) (a := q1) (o := .lst (w0.1.map V.int))))
      refine ⟨q1, q3, _, _, rfl, rfl, e1, upd_same, ?_, fun q4 nq4 => ?_⟩
      · rw [List.length_map, List.length_replicate, hlen]
        exact Nat.le_of_lt (small1000 (by omega))
      have s6' := Same.new (o := .lst (w0.1.map V.int ++ List.replicate (3 - tall) (.int 0))) nq4
      have el : w0.1.map V.int ++ List.replicate (3 - tall) (.int 0) = (wThree tall w0).map V.int := by
        unfold wThree
        rw [List.map_append, List.map_replicate]
      have s37 := s3.trans (s4.trans (s5.trans s6'))
      have e4 : (upd (upd (upd (upd H7 q1 (.lst (w0.1.map V.int))) q2 (.lst [.int 0])) q3 (.lst (List.replicate (3 - tall) (.int 0)))) q4 (.lst (w0.1.map V.int ++ List.replicate (3 - tall) (.int 0)))) q4 = some (.lst ((wThree tall w0).map V.int)) := by rw [upd_same, el]
      generalize (upd (upd (upd (upd H7 q1 (.lst (w0.1.map V.int))) q2 (.lst [.int 0])) q3 (.lst (List.replicate (3 - tall) (.int 0)))) q4 (.lst (w0.1.map V.int ++ List.replicate (3 - tall) (.int 0)))) = H8 at s37 e4 ⊢
      have l3 : (wThree tall w0).length = 3 := by
        unfold wThree
        rw [List.length_append, List.length_replicate, hlen]
        omega
      have at3 : ∀ j, j < 3 → atI ((wThree tall w0).map V.int) (j : Nat) = some (.int ((wThree tall w0).getD j 0)) := fun j hj => by
        refine atI_nat ?_
        rw [List.getElem?_map, List.getD_eq_getElem?_getD, List.getElem?_eq_getElem (by omega)]
        rfl
      have sq : SqL K H8 q4 ((wThree tall w0).map V.int) := .inl (.inl e4)
      have eL8 := s37 _ _ eL
      have lacc : acc.length < 1000 := by
        rw [hacc.length, List.length_map, List.length_append, List.length_map, List.length_take]
        omega
      refine ⟨_, rfl, .inl ⟨rfl, _, .inl (.inl eL8)⟩, ?_⟩
      refine ⟨_, rfl, q4, _, _, _, rfl, rfl, sq, at3 0 (by decide), _, rfl, q4, _, _, _, rfl, rfl, sq, at3 2 (by decide), _, _, rfl, rfl, _, rfl, q4, _, _, _, rfl, rfl, sq, at3 1 (by decide), _, rfl, q4, _, _, _, rfl, rfl, sq, at3 2 (by decide), _, _, rfl, rfl,
        _, rfl, _, rfl, q4, _, _, _, rfl, rfl, sq, at3 2 (by decide), _, _, rfl, rfl, (by show 3 ≤ sizeLine; decide), fun p np => ?_⟩
      obtain ⟨c1, c2⟩ := cut_app (c := wCut tall w0) hX hL s2 eL hacc s37 np
      refine ⟨L, acc, _, rfl, rfl, c1, small1000 (Nat.le_of_lt lacc), _, _, _, rfl, ?_⟩
      have e : cut3 ++ cutT tall ++ cutU tall ++ (ws.take (i + 1)).map (wCut tall) = (cut3 ++ cutT tall ++ cutU tall ++ (ws.take i).map (wCut tall)) ++ [wCut tall w0] := by
        rw [List.take_add_one, ew, List.map_append, ← List.append_assoc]
        rfl
      rw [e]
      exact c2
    · rintro σ H2 ⟨f3, f4, f5, rfl, s2, acc, eL, hacc⟩
      rw [List.take_of_length_le (by omega)] at hacc
      exact ⟨_, rfl, q H2 _ s2 ⟨L, acc, rfl, eL, nLX, hacc.same cut_more⟩⟩
end
end Cs
set_option Elab.async false
set_option linter.all false
set_option maxRecDepth 100000
set_option maxHeartbeats 16000000
/-! the law's spots -/
namespace Cs
open PySem PySem.Spec PyProof.Rows L2
def uOf (c1 c2 : Cut) : Int := c1.1 * c2.2.1 - c2.1 * c1.2.1
def sOf (u : Int) : Int := if 0 < u then 1 else -1
def lOf (c1 c2 : Cut) : Int := sOf (uOf c1 c2) * (c1.2.2 * c2.2.1 - c2.2.2 * c1.2.1)
def rOf (c1 c2 : Cut) : Int := sOf (uOf c1 c2) * (c1.1 * c2.2.2 - c2.1 * c1.2.2)
def holdsAt (l r : Int) (u : Nat) (c : Cut) : Bool := decide (c.1 * l + c.2.1 * r ≤ c.2.2 * (u : Int))
abbrev Spot := Int × Int × Nat
def spotI (cuts : List Cut) (c1 c2 : Cut) : Option Spot := if uOf c1 c2 ≠ 0 ∧ (cuts.map (holdsAt (lOf c1 c2) (rOf c1 c2) (uOf c1 c2).natAbs)).all id = true then some (lOf c1 c2, rOf c1 c2, (uOf c1 c2).natAbs) else none
def spotP (tall : Nat) (s : Spot) : List Rat := [mkRat s.1 s.2.2, mkRat s.2.1 s.2.2, mkRat ((s.2.2 : Int) - s.1 - s.2.1) s.2.2].take tall
abbrev zc : Cut := (0, 0, 0)
def spotsIn (cuts : List Cut) (k j : Nat) : List Spot := ((List.range k).flatMap fun k => (List.range k).filterMap fun j => spotI cuts (cuts.getD j zc) (cuts.getD k zc)) ++ (List.range j).filterMap fun j => spotI cuts (cuts.getD j zc) (cuts.getD k zc)
def mSpots (cuts : List Cut) : List Spot := spotsIn cuts cuts.length 0
def dSpot (tall : Nat) (s : Spot) : PyData := fTup (spotP tall s)
def CutOk (c : Cut) : Prop := -200 ≤ c.1 ∧ c.1 ≤ 200 ∧ -200 ≤ c.2.1 ∧ c.2.1 ≤ 200 ∧ -200 ≤ c.2.2 ∧ c.2.2 ≤ 200
theorem wThree_bd {tall : Nat} {ws : List Want} (ok : WantsOk tall ws) {w : Want} (hw : w ∈ ws) (j : Nat) : -100 ≤ (wThree tall w).getD j 0 ∧ (wThree tall w).getD j 0 ≤ 100 := by
  by_cases hj : j < (wThree tall w).length
  · rw [List.getD_eq_getElem?_getD, List.getElem?_eq_getElem hj]
    have hm := List.getElem_mem hj
    unfold wThree at hm
    show -100 ≤ (wThree tall w)[j] ∧ (wThree tall w)[j] ≤ 100
    rcases List.mem_append.mp hm with h | h
    · exact ok.bd w hw _ h
    · have := (List.mem_replicate.mp h).2
      have e : (wThree tall w)[j] = 0 := this
      omega
  · rw [List.getD_eq_getElem?_getD, List.getElem?_eq_none (by omega)]
    show -100 ≤ (0 : Int) ∧ (0 : Int) ≤ 100
    omega
theorem cuts_ok {tall : Nat} {ws : List Want} (ok : WantsOk tall ws) : ∀ c ∈ mCuts tall ws, CutOk c := fun c hc => by
  unfold mCuts at hc
  rcases List.mem_append.mp hc with hc | hc
  · have : c ∈ cut3 ∨ c = (-1, -1, -1) ∨ c = (0, 1, 0) := by
      rcases List.mem_append.mp hc with hc | hc
      · rcases List.mem_append.mp hc with hc | hc
        · exact .inl hc
        · unfold cutT at hc
          split at hc
          · exact .inr (.inl (List.mem_singleton.mp hc))
          · cases hc
      · unfold cutU at hc
        split at hc
        · exact .inr (.inr (List.mem_singleton.mp hc))
        · cases hc
    rcases this with h | rfl | rfl
    · unfold cut3 at h
      simp only [List.mem_cons, List.not_mem_nil, or_false] at h
      rcases h with rfl | rfl | rfl <;> (unfold CutOk; decide)
    · unfold CutOk
      decide
    · unfold CutOk
      decide
  · obtain ⟨w, hw, rfl⟩ := List.mem_map.mp hc
    have h0 := wThree_bd ok hw 0
    have h1 := wThree_bd ok hw 1
    have h2 := wThree_bd ok hw 2
    have hb := ok.bb w hw
    unfold CutOk wCut
    simp only
    omega
theorem cuts_len {tall : Nat} {ws : List Want} (ok : WantsOk tall ws) : (mCuts tall ws).length ≤ 11 := by
  have := ok.n6
  unfold mCuts cut3 cutT cutU
  rw [List.length_append, List.length_append, List.length_append, List.length_map]
  split <;> split <;> simp <;> omega
theorem spotsIn_len (cuts : List Cut) (k j : Nat) (hk : k ≤ 11) : (spotsIn cuts k j).length ≤ 11 * k + j := by
  unfold spotsIn
  rw [List.length_append]
  have h1 : ∀ k, k ≤ 11 → ((List.range k).flatMap fun k => (List.range k).filterMap fun j => spotI cuts (cuts.getD j zc) (cuts.getD k zc)).length ≤ 11 * k := by
    intro k
    induction k with
    | zero => exact fun _ => Nat.le_refl _
    | succ k ih =>
      intro hk
      have := ih (by omega)
      rw [List.range_succ, List.flatMap_append, List.length_append]
      have h2 := List.length_filterMap_le (fun j => spotI cuts (cuts.getD j zc) (cuts.getD k zc)) (List.range k)
      rw [List.length_range] at h2
      simp only [List.flatMap_cons, List.flatMap_nil, List.append_nil]
      omega
  have h2 := List.length_filterMap_le (fun j => spotI cuts (cuts.getD j zc) (cuts.getD k zc)) (List.range j)
  rw [List.length_range] at h2
  have := h1 k hk
  omega
theorem prod_le {a b : Int} (ha : -200 ≤ a ∧ a ≤ 200) (hb : -200 ≤ b ∧ b ≤ 200) : -40000 ≤ a * b ∧ a * b ≤ 40000 := by
  have h : (a * b).natAbs ≤ 200 * 200 := by
    rw [Int.natAbs_mul]
    exact Nat.mul_le_mul (by omega) (by omega)
  omega
theorem u_bd {c1 c2 : Cut} (h1 : CutOk c1) (h2 : CutOk c2) : -80000 ≤ uOf c1 c2 ∧ uOf c1 c2 ≤ 80000 := by
  obtain ⟨a1, a2, a3, a4, a5, a6⟩ := h1
  obtain ⟨b1, b2, b3, b4, b5, b6⟩ := h2
  have p1 := prod_le ⟨a1, a2⟩ ⟨b3, b4⟩
  have p2 := prod_le ⟨b1, b2⟩ ⟨a3, a4⟩
  unfold uOf
  omega
theorem sOf_cases (u : Int) : sOf u = 1 ∨ sOf u = -1 := by
  unfold sOf
  split
  · exact .inl rfl
  · exact .inr rfl
theorem l_bd {c1 c2 : Cut} (h1 : CutOk c1) (h2 : CutOk c2) : -80000 ≤ lOf c1 c2 ∧ lOf c1 c2 ≤ 80000 := by
  obtain ⟨a1, a2, a3, a4, a5, a6⟩ := h1
  obtain ⟨b1, b2, b3, b4, b5, b6⟩ := h2
  have p1 := prod_le ⟨a5, a6⟩ ⟨b3, b4⟩
  have p2 := prod_le ⟨b5, b6⟩ ⟨a3, a4⟩
  unfold lOf
  rcases sOf_cases (uOf c1 c2) with e | e <;> rw [e] <;> omega
theorem r_bd {c1 c2 : Cut} (h1 : CutOk c1) (h2 : CutOk c2) : -80000 ≤ rOf c1 c2 ∧ rOf c1 c2 ≤ 80000 := by
  obtain ⟨a1, a2, a3, a4, a5, a6⟩ := h1
  obtain ⟨b1, b2, b3, b4, b5, b6⟩ := h2
  have p1 := prod_le ⟨a1, a2⟩ ⟨b5, b6⟩
  have p2 := prod_le ⟨b1, b2⟩ ⟨a5, a6⟩
  unfold rOf
  rcases sOf_cases (uOf c1 c2) with e | e <;> rw [e] <;> omega
theorem cut_of {K : PySem.W.Frag} {H : Hp} {v : V} {c : Cut} (h : Dp K H v (dCut c)) : ∃ a, v = .ref a ∧ SqT K H a [.int c.1, .int c.2.1, .int c.2.2] := by
  obtain ⟨a, xs, rfl, hs, ha⟩ := h.tuple
  have e := DpAll.ints_eq (ns := [c.1, c.2.1, c.2.2]) ha
  subst e
  exact ⟨a, rfl, hs⟩
theorem cuts_get {K : PySem.W.Frag} {H : Hp} {xs : List V} {cs : List Cut} {i : Nat} {c : Cut} (h : DpAll K H xs (cs.map dCut)) (e : cs[i]? = some c) : ∃ x, xs[i]? = some x ∧ Dp K H x (dCut c) :=
  h.get (i := i) (d := dCut c) (by rw [List.getElem?_map, e]; rfl)
theorem cuts_at {K : PySem.W.Frag} {H : Hp} {xs : List V} {cs : List Cut} {i : Nat} {x : V} (h : DpAll K H xs (cs.map dCut)) (e : xs[i]? = some x) : ∃ c, cs[i]? = some c ∧ Dp K H x (dCut c) := by
  obtain ⟨d, e1, e2⟩ := h.at e
  rw [List.getElem?_map] at e1
  cases e3 : cs[i]? with
  | none =>
    rw [e3] at e1
    cases e1
  | some q =>
    rw [e3] at e1
    cases e1
    exact ⟨q, rfl, e2⟩
theorem dp_take {K : PySem.W.Frag} {H : Hp} : ∀ {xs : List V} {ds : List PyData}, DpAll K H xs ds → ∀ n, DpAll K H (xs.take n) (ds.take n)
  | _, _, .nil, n => by simpa using DpAll.nil
  | _, _, .cons h t, 0 => .nil
  | _, _, .cons h t, n + 1 => .cons h (dp_take t n)
theorem bools_of {K : PySem.W.Frag} {H : Hp} : ∀ {xs : List V} {bs : List Bool}, DpAll K H xs (bs.map .bool) → xs = bs.map V.bl
  | _, [], h => by
    cases h
    rfl
  | _, b :: r, h => by
    cases h with
    | cons h1 h2 =>
      cases h1
      rw [bools_of h2]
      rfl
section
variable {P : Program} {w : World} {K : PySem.W.Frag} {mg : Str → Option Value} {base : Heap}
theorem sg_read {i : Nat} {σ : L2.St} {H : Hp} {Q : VK} {u : Int} (h : σ[i]? = some (some (.int u))) (q : Q (.int (sOf u)) H) :
    tIf (tTest (tOp (rI0 fun i j => V.bl (decide (j < i))) (tVar i) (tC (.int 0)))) (tC (.int 1)) (tUn (rU fun i => V.int (-i)) (tC (.int 1))) σ H Q := by
  refine ⟨_, h, _, _, rfl, rfl, _, rfl, ?_⟩
  unfold sOf at q
  by_cases hu : 0 < u
  · rw [if_pos hu] at q
    rw [decide_eq_true hu]
    exact q
  · rw [if_neg hu] at q
    rw [decide_eq_false hu]
    exact ⟨_, rfl, q⟩
abbrev sLSpots : Stmt := topS 112
abbrev nLSpots : List Str := ["_law_tall", "_law_wants_here", "_law_cuts_here", "_law_found", "_law_k", "_law_j", "_law_one", "_law_two", "_law_under", "_law_sign", "_law_left", "_law_right_here", "_law_some", "_law_slit", "_law_each"]
theorem scLSpots : FnScope nLSpots ["_law_tall", "_law_wants_here"] (defScope sLSpots) := ⟨rfl, rfl, rfl, by decide +kernel, rfl, by decide +kernel, by decide +kernel⟩
def spLSpots (K : PySem.W.Frag) : Sp := fun vs H Q _ => ∃ (X : List Addr) (vw : V) (tall : Nat) (ws : List Want), vs = [.int tall, vw] ∧ Xin X H ∧ Dp K (cutH X H) vw (.list (ws.map dWant)) ∧ WantsOk tall ws ∧ ∀ H' v, Same H H' → RawL K X H' v ((mSpots (mCuts tall ws)).map (dSpot tall)) → Q v H'
theorem c_lspots (D : DefAt K mg "_law_spots" sLSpots ["_law_tall", "_law_wants_here"]) (T : Bn mg) (Cu : Cal P w K mg base 1 "_law_cuts" ["_law_tall", "_law_wants_here"] (spLCuts K)) (Lo : Cal P w K mg base 1 "_law_low" ["_law_top", "_law_bottom"] (spLowest K)) : Cal P w K mg base 2 "_law_spots" ["_law_tall", "_law_wants_here"] (spLSpots K) := by
  refine D.cal fun f fd F => ?_
  refine F.ok scLSpots (fun vs H Q E h => ?_) (fun cdv A outer s H vs Q E hr h => ?_)
  · obtain ⟨X, vw, tall, ws, rfl, _⟩ := h
    rfl
  · obtain ⟨X, vw, tall, ws, rfl, hX, hw, ok, q⟩ := h
    refine ⟨_, pss_cons (ps_par (i := 2) (j := 3) rfl scLSpots.nd rfl rfl (by decide) rfl rfl (pa_cons (pe_cal Cu hr (pa_cons (pv 0) (pa_cons (pv 1) pa_nil))) (pa_cons (pe_lst pa_nil) pa_nil)) (by rfl))
      (pss_cons (ps_for PassesOwn.never rfl (pi_range1 (by rfl) T.range (pa_cons (pe_callB call_len_seq (by rfl) T.len PySem.boot_len (pa_cons (pv 2) pa_nil)) pa_nil)) (pg_name (i := 4) scLSpots.nd rfl (.inl rfl))
        (pss_one (ps_for PassesOwn.never rfl (pi_range1 (by rfl) T.range (pa_cons (pv 4) pa_nil)) (pg_name (i := 5) scLSpots.nd rfl (.inl rfl))
          (pss_cons (ps_par (i := 6) (j := 7) rfl scLSpots.nd rfl rfl (by decide) rfl rfl (pa_cons (pe_ix (ix_lstK K) (pv 2) (pv 5) (fun _ _ => rfl)) (pa_cons (pe_ix (ix_lstK K) (pv 2) (pv 4) (fun _ _ => rfl)) pa_nil)) (by rfl))
          (pss_cons (ps_set (i := 8) scLSpots.nd rfl (.inr rfl) (pe_op op_sub (pe_op op_mul (pe_ix (ix_tupK K) (pv 6) pe_int (fun _ _ => rfl)) (pe_ix (ix_tupK K) (pv 7) pe_int (fun _ _ => rfl))) (pe_op op_mul (pe_ix (ix_tupK K) (pv 7) pe_int (fun _ _ => rfl)) (pe_ix (ix_tupK K) (pv 6) pe_int (fun _ _ => rfl)))))
          (pss_one (ps_if (pt_cmpR op_ne (pv 8) pe_int (nomark _))
            (pss_cons (ps_set (i := 9) scLSpots.nd rfl (.inl rfl) (pe_ifExp (pt_cmpR op_gt (pv 8) pe_int (nomark _)) pe_int (pe_un un_neg pe_int)))
            (pss_cons (ps_set (i := 10) scLSpots.nd rfl (.inr rfl) (pe_op op_mul (pv 9) (pe_op op_sub (pe_op op_mul (pe_ix (ix_tupK K) (pv 6) pe_int (fun _ _ => rfl)) (pe_ix (ix_tupK K) (pv 7) pe_int (fun _ _ => rfl))) (pe_op op_mul (pe_ix (ix_tupK K) (pv 7) pe_int (fun _ _ => rfl)) (pe_ix (ix_tupK K) (pv 6) pe_int (fun _ _ => rfl))))))
            (pss_cons (ps_set (i := 11) scLSpots.nd rfl (.inr rfl) (pe_op op_mul (pv 9) (pe_op op_sub (pe_op op_mul (pe_ix (ix_tupK K) (pv 6) pe_int (fun _ _ => rfl)) (pe_ix (ix_tupK K) (pv 7) pe_int (fun _ _ => rfl))) (pe_op op_mul (pe_ix (ix_tupK K) (pv 7) pe_int (fun _ _ => rfl)) (pe_ix (ix_tupK K) (pv 6) pe_int (fun _ _ => rfl))))))
            (pss_cons (ps_set (i := 8) scLSpots.nd rfl (.inr rfl) (pe_callB call_abs (by rfl) T.abs (by decide +kernel) (pa_cons (pv 8) pa_nil)))
            (pss_one (ps_if (pt_val (pe_callB (cr_all rfl) (by rfl) T.all (by decide +kernel) (pa_cons (pe_lc (own := [("_law_slit", 13)]) (g := gName 13) (tt := tYes) rfl scLSpots.nd (pi_list (pv 2)) (blkOk_by (own := [("_law_slit", 13)]) (N := nLSpots) (sc := defScope sLSpots) (by decide +kernel))
                (fun _ _ _ _ _ => pg_name (i := 13) scLSpots.nd rfl (.inl rfl)) (fun _ _ _ _ _ => pts_nil)
                (fun _ _ _ _ _ => pe_cmpR op_le (pe_op op_add (pe_op op_mul (pe_ix (ix_tupK K) (pv 13) pe_int (fun _ _ => rfl)) (pv 10)) (pe_op op_mul (pe_ix (ix_tupK K) (pv 13) pe_int (fun _ _ => rfl)) (pv 11))) (pe_op op_mul (pe_ix (ix_tupK K) (pv 13) pe_int (fun _ _ => rfl)) (pv 8)) (by rfl))) pa_nil)))
              (pss_cons (ps_set (i := 12) scLSpots.nd rfl (.inl rfl) (pe_tup (pa_cons (pv 10) (pa_cons (pv 11) (pa_cons (pe_op op_sub (pe_op op_sub (pv 8) (pv 10)) (pv 11)) pa_nil)))))
              (pss_one (ps_expr (pe_bm PySem.F.plainAttrs_list PySem.F.slot_list_append PySem.F.type_list_append mt_append (pv 3) (pa_cons (pe_slice sl_tupA (pe_callTy call_tuple_of (by rfl) T.tup (by decide +kernel) (pa_cons
                (pe_lc (own := [("_law_each", 14)]) (g := gName 14) (tt := tYes) rfl scLSpots.nd (pi_tup (pv 12)) (blkOk_by (own := [("_law_each", 14)]) (N := nLSpots) (sc := defScope sLSpots) (by decide +kernel))
                (fun _ _ _ _ _ => pg_name (i := 14) scLSpots.nd rfl (.inl rfl)) (fun _ _ _ _ _ => pts_nil) (fun _ _ _ _ _ => pe_cal Lo hr (pa_cons (pv 14) (pa_cons (pv 8) pa_nil)))) pa_nil)) po_none (po_some (pv 0))) pa_nil))))) pss_nil)))))) pss_nil)))))))
      (pss_one (ps_ret (pv 3)))), ?_⟩
    have t1 := ok.t1
    have t3 := ok.t3
    have lcu := cuts_len ok
    have cok := cuts_ok ok
    refine ⟨_, rfl, _, rfl, X, vw, tall, ws, rfl, hX, hw, ok, fun H1 vc s1 hvc => ?_⟩
    obtain ⟨ac, xs, rfl, eac, nac, hdc⟩ := hvc
    generalize mCuts tall ws = cuts at *
    have lx : xs.length = cuts.length := by rw [hdc.length, List.length_map]
    refine ⟨Nat.zero_le _, fun L hL => ⟨_, _, rfl, ?_⟩⟩
    have s2 : Same H1 (upd H1 L (.lst [])) := Same.new hL
    have nLX : L ∉ X := (hX.same s1).new hL
    have hLH : H L = none := by
      cases e : H L with
      | none => rfl
      | some o =>
        rw [s1 _ _ e] at hL
        cases hL
    refine ⟨_, rfl, ac, xs, rfl, .inl (.inl (.inl (s2 _ _ eac))), (xs.length : Nat), rfl, by omega, by omega, ?_⟩
    have hX1 := hX.same s1
    refine for_it walk_rangeN (fun k σ H2 => ∃ f4 f5 f6 f7 f8 f9 f10 f11 f12, σ = [some (.int tall), some vw, some (.ref ac), some (.ref L), f4, f5, f6, f7, f8, f9, f10, f11, f12, none, none] ∧ Same H1 H2 ∧ ∃ acc, H2 L = some (.lst acc) ∧ DpAll K (cutH (L :: X) H2) acc ((spotsIn cuts k 0).map (dSpot tall)))
      ⟨none, none, none, none, none, none, none, none, none, rfl, s2, [], upd_same, .nil⟩ (fun _ _ _ _ _ => trivial) ?_ ?_
    · rintro k x σ H2 H3 hk ⟨f4, f5, f6, f7, f8, f9, f10, f11, f12, rfl, s12, acc0, eL0, hacc0⟩ ⟨rfl, rfl⟩
      have hk : k < cuts.length := by
        have : k < (xs.length : Int).toNat := hk
        omega
      refine ⟨_, rfl, (k : Nat), rfl, by omega, by omega, ?_⟩
      refine for_it walk_rangeN (fun j σ H2 => ∃ f5 f6 f7 f8 f9 f10 f11 f12, σ = [some (.int tall), some vw, some (.ref ac), some (.ref L), some (.int k), f5, f6, f7, f8, f9, f10, f11, f12, none, none] ∧ Same H1 H2 ∧ ∃ acc, H2 L = some (.lst acc) ∧ DpAll K (cutH (L :: X) H2) acc ((spotsIn cuts k j).map (dSpot tall)))
        ⟨f5, f6, f7, f8, f9, f10, f11, f12, rfl, s12, acc0, eL0, hacc0⟩ (fun _ _ _ _ _ => trivial) ?_ ?_
      · rintro j x σ H4 H5 hj ⟨f5, f6, f7, f8, f9, f10, f11, f12, rfl, s14, acc, eL, hacc⟩ ⟨rfl, rfl⟩
        have hj : j < k := by
          have : j < ((k : Nat) : Int).toNat := hj
          omega
        have nextNone : spotI cuts (cuts.getD j zc) (cuts.getD k zc) = none → spotsIn cuts k (j + 1) = spotsIn cuts k j := fun e => by
          unfold spotsIn
          rw [List.range_succ, List.filterMap_append, List.filterMap_cons_none (f := fun j => spotI cuts (cuts.getD j zc) (cuts.getD k zc)) (a := j) e, List.filterMap_nil, List.append_nil]
        have nextSome : ∀ sp, spotI cuts (cuts.getD j zc) (cuts.getD k zc) = some sp → spotsIn cuts k (j + 1) = spotsIn cuts k j ++ [sp] := fun sp e => by
          unfold spotsIn
          rw [List.range_succ, List.filterMap_append, List.filterMap_cons_some (f := fun j => spotI cuts (cuts.getD j zc) (cuts.getD k zc)) (a := j) e, List.filterMap_nil, List.append_assoc]
        have ej : cuts[j]? = some cuts[j] := List.getElem?_eq_getElem (by omega)
        have ek : cuts[k]? = some cuts[k] := List.getElem?_eq_getElem hk
        have gj : cuts.getD j zc = cuts[j] := by rw [List.getD_eq_getElem?_getD, ej]; rfl
        have gk : cuts.getD k zc = cuts[k] := by rw [List.getD_eq_getElem?_getD, ek]; rfl
        rw [gj, gk] at nextNone nextSome
        have oj := cok _ (List.getElem_mem (show j < cuts.length by omega))
        have ok' := cok _ (List.getElem_mem hk)
        generalize cuts[j] = c1 at *
        generalize cuts[k] = c2 at *
        obtain ⟨x1, e1, h1⟩ := cuts_get hdc ej
        obtain ⟨x2, e2, h2⟩ := cuts_get hdc ek
        have sq : SqL K H5 ac xs := .inl (.inl (s14 _ _ eac))
        obtain ⟨b1, rfl, q1⟩ := cut_of (h1.same (cut_same.trans s14))
        obtain ⟨b2, rfl, q2⟩ := cut_of (h2.same (cut_same.trans s14))
        refine ⟨_, rfl, _, rfl, ac, xs, _, _, rfl, rfl, sq, atI_nat e1, _, rfl, _, rfl, ac, xs, _, _, rfl, rfl, sq, atI_nat e2, _, _, rfl, ?_⟩
        have z0 : ∀ {a b c : Int}, atI [V.int a, .int b, .int c] 0 = some (.int a) := fun {a b c} => atI_nat (j := 0) rfl
        have z1 : ∀ {a b c : Int}, atI [V.int a, .int b, .int c] 1 = some (.int b) := fun {a b c} => atI_nat (j := 1) rfl
        have z2 : ∀ {a b c : Int}, atI [V.int a, .int b, .int c] 2 = some (.int c) := fun {a b c} => atI_nat (j := 2) rfl
        obtain ⟨o1, o2, o3, o4, o5, o6⟩ := id oj
        obtain ⟨p1, p2, p3, p4, p5, p6⟩ := id ok'
        refine ⟨_, rfl, b1, _, _, _, rfl, rfl, q1, z0, _, rfl, b2, _, _, _, rfl, rfl, q2, z1, _, _, rfl, rfl, .inl ⟨by omega, by omega⟩, _, rfl, b2, _, _, _, rfl, rfl, q2, z0, _, rfl, b1, _, _, _, rfl, rfl, q1, z1, _, _, rfl, rfl, .inl ⟨by omega, by omega⟩, _, _, rfl, rfl, ?_⟩
        show gName 8 (V.int (uOf c1 c2)) [some (V.int tall), some vw, some (V.ref ac), some (V.ref L), some (V.int k), some (V.int j), some (V.ref b1), some (V.ref b2), f8, f9, f10, f11, f12, none, none] H5 _
        refine ⟨_, rfl, rfl, _, rfl, ?_⟩
        by_cases hu : uOf c1 c2 = 0
        · have e : spotI cuts c1 c2 = none := by
            unfold spotI
            rw [if_neg (fun z => z.1 hu)]
          have hu2 : (!decide (V.int (uOf c1 c2) = V.int 0)) = false := by rw [hu]; rfl
          rw [hu2]
          refine iteF ⟨_, _, _, _, _, _, _, _, rfl, s14, acc, eL, ?_⟩
          rw [nextNone e]
          exact hacc
        · have hu2 : (!decide (V.int (uOf c1 c2) = V.int 0)) = true := by
            rw [decide_eq_false (fun z => hu (V.int.inj z))]
            rfl
          rw [hu2]
          refine iteT (sg_read rfl ?_)
          have sg := sOf_cases (uOf c1 c2)
          refine ⟨_, rfl, _, rfl, b1, _, _, _, rfl, rfl, q1, z2, _, rfl, b2, _, _, _, rfl, rfl, q2, z1, _, _, rfl, rfl, .inl ⟨by omega, by omega⟩, _, rfl, b2, _, _, _, rfl, rfl, q2, z2, _, rfl, b1, _, _, _, rfl, rfl, q1, z1, _, _, rfl, rfl, .inl ⟨by omega, by omega⟩, _, _, rfl, rfl, _, _, rfl, rfl, .inl ⟨by omega, by omega⟩, ?_⟩
          refine ⟨_, rfl, _, rfl, b1, _, _, _, rfl, rfl, q1, z0, _, rfl, b2, _, _, _, rfl, rfl, q2, z2, _, _, rfl, rfl, .inl ⟨by omega, by omega⟩, _, rfl, b2, _, _, _, rfl, rfl, q2, z0, _, rfl, b1, _, _, _, rfl, rfl, q1, z2, _, _, rfl, rfl, .inl ⟨by omega, by omega⟩, _, _, rfl, rfl, _, _, rfl, rfl, .inl ⟨by omega, by omega⟩, ?_⟩
          have eabs : (if uOf c1 c2 < 0 then -uOf c1 c2 else uOf c1 c2) = ((uOf c1 c2).natAbs : Int) := by
            split <;> omega
          refine ⟨_, rfl, uOf c1 c2, rfl, ?_⟩
          show gName 8 (V.int (if uOf c1 c2 < 0 then -uOf c1 c2 else uOf c1 c2)) [some (V.int tall), some vw, some (V.ref ac), some (V.ref L), some (V.int k), some (V.int j), some (V.ref b1), some (V.ref b2), some (V.int (uOf c1 c2)), some (V.int (sOf (uOf c1 c2))), some (V.int (lOf c1 c2)), some (V.int (rOf c1 c2)), f12, none, none] H5 _
          rw [eabs]
          have hub := u_bd oj ok'
          have hlb := l_bd oj ok'
          have hrb := r_bd oj ok'
          have hspot : (cuts.map (holdsAt (lOf c1 c2) (rOf c1 c2) (uOf c1 c2).natAbs)).all id = true → spotI cuts c1 c2 = some (lOf c1 c2, rOf c1 c2, (uOf c1 c2).natAbs) := fun h => by
            unfold spotI
            rw [if_pos ⟨hu, h⟩]
          have hnone : ¬ (cuts.map (holdsAt (lOf c1 c2) (rOf c1 c2) (uOf c1 c2).natAbs)).all id = true → spotI cuts c1 c2 = none := fun h => by
            unfold spotI
            rw [if_neg (fun z => h z.2)]
          have hpos : 0 < (uOf c1 c2).natAbs := by omega
          generalize lOf c1 c2 = l at *
          generalize rOf c1 c2 = r at *
          generalize (uOf c1 c2).natAbs = u at *
          have hX5 : Xin (L :: X) H5 := (hX1.same s14).cons eL
          refine ⟨_, rfl, ac, rfl, ⟨_, sq⟩, fun D1 hD1 => ?_⟩
          refine lc_map (K := K) walk_list [] ((cuts.map (holdsAt l r u)).map .bool) Xin.nil hD1 (by rw [List.length_map, List.length_map, lx]) (by omega) (fun H6 s6 => s6.seq sq) ?_ fun H6 s6 ho6 => ?_
          · rintro i x H6 H7 d Q2 hd2 s6 sc hX6 ⟨rfl, ex⟩ kk
            obtain ⟨c, ec, hc⟩ := cuts_at hdc ex
            obtain ⟨b3, rfl, q3⟩ := cut_of (hc.same (cut_same.trans (s14.trans s6)))
            have oc := cok c (List.mem_of_getElem? ec)
            obtain ⟨w1, w2, w3, w4, w5, w6⟩ := oc
            have e1 : d = .bool (holdsAt l r u c) := by
              rw [List.getElem?_map, List.getElem?_map, ec] at hd2
              exact (Option.some.inj hd2).symm
            subst e1
            refine ⟨rfl, _, rfl, b3, _, _, _, rfl, rfl, q3, z0, _, rfl, _, _, rfl, rfl, .inl ⟨by omega, by omega⟩, _, rfl, b3, _, _, _, rfl, rfl, q3, z1, _, rfl, _, _, rfl, rfl, .inl ⟨by omega, by omega⟩, _, _, rfl, rfl, _, rfl, b3, _, _, _, rfl, rfl, q3, z2, _, rfl, _, _, rfl, rfl, .inl ⟨by omega, by omega⟩, _, _, rfl, rfl, kk _ _ (Same.refl _) (.bl _)⟩
          · rw [cut_nil] at ho6
            obtain ⟨aD, ys, eD, hsD, hdD⟩ := ho6.list
            cases eD
            rw [bools_of hdD] at hsD
            refine ⟨_, _, rfl, hsD, _, rfl, ?_⟩
            have s16 := s14.trans s6
            by_cases hall : (cuts.map (holdsAt l r u)).all id = true
            · rw [hall]
              refine iteT ⟨_, rfl, _, rfl, _, rfl, _, rfl, _, _, rfl, rfl, _, rfl, _, _, rfl, rfl, (by show 3 ≤ sizeLine; decide), fun t nt => ?_⟩
              have s7 : Same H6 (upd H6 t (.tup [.int l, .int r, .int ((u : Nat) - l - r)])) := Same.new nt
              have et : (upd H6 t (.tup [.int l, .int r, .int ((u : Nat) - l - r)])) t = some (.tup [.int l, .int r, .int ((u : Nat) - l - r)]) := upd_same
              generalize (upd H6 t (.tup [.int l, .int r, .int ((u : Nat) - l - r)])) = H7 at s7 et ⊢
              have s57 := s6.trans s7
              have eL7 := s57 _ _ eL
              have hX7 := hX5.same s57
              refine ⟨_, rfl, .inl ⟨rfl, _, .inl (.inl eL7)⟩, ?_⟩
              refine ⟨_, rfl, t, rfl, ⟨_, .inl (.inl et)⟩, fun D2 hD2 => ?_⟩
              refine lc_map (K := K) walk_tup (L :: X) (frs [mkRat l u, mkRat r u, mkRat ((u : Nat) - l - r) u]) hX7 hD2 (by rfl) (by show 3 ≤ 1000; decide) (fun H8 s8 => s8.tup (.inl (.inl et))) ?_ fun H8 s8 ho8 => ?_
              · rintro i x H8 H9 d Q2 hd2 s8 sc hX8 ⟨rfl, ex⟩ kk
                have hx : ∃ n : Int, x = .int n ∧ d = fr (mkRat n u) := by
                  have hi : i < 3 := (List.getElem?_eq_some_iff.mp ex).1
                  rcases (show i = 0 ∨ i = 1 ∨ i = 2 by omega) with rfl | rfl | rfl
                  · cases ex
                    cases hd2
                    exact ⟨_, rfl, rfl⟩
                  · cases ex
                    cases hd2
                    exact ⟨_, rfl, rfl⟩
                  · cases ex
                    cases hd2
                    exact ⟨_, rfl, rfl⟩
                obtain ⟨n, rfl, rfl⟩ := hx
                have h17 : (2 : Nat) ^ 17 = 131072 := by decide
                have u9 : u < 2 ^ 9000 := Nat.lt_of_lt_of_le (show u < 2 ^ 17 by omega) (Nat.pow_le_pow_right (by decide) (by decide))
                refine ⟨rfl, _, rfl, _, rfl, n, u, rfl, hpos, u9, fun H10 v10 s10 hv10 => kk _ _ s10 (hv10.cut (hX8.same s10)).dp⟩
              · obtain ⟨aD2, zs, eD2, hsz, hdz⟩ := ho8.list
                cases eD2
                have lz : zs.length = 3 := by rw [hdz.length]; rfl
                refine ⟨_, zs, rfl, .inl ⟨cut_same.seq hsz, fun l1 nl1 => ?_⟩⟩
                have s9 : Same H8 (upd H8 l1 (.tup zs)) := Same.new nl1
                have et9 : SqT K (upd H8 l1 (.tup zs)) l1 zs := .inl (.inl upd_same)
                have s59 := s57.trans (s8.trans s9)
                have hX9 := hX5.same s59
                have ht9 : Dp K (cutH (L :: X) (upd H8 l1 (.tup zs))) (.ref l1) (fTup [mkRat l u, mkRat r u, mkRat ((u : Nat) - l - r) u]) := .tup (.inl (.inl (cut_upd ((hX5.same (s57.trans s8)).new nl1)))) (hdz.same (same_cut s9))
                have hdz9 := hdz.same (same_cut s9)
                generalize (upd H8 l1 (.tup zs)) = H9 at s9 et9 s59 hX9 ht9 hdz9 ⊢
                have fin : ∀ (H10 : Hp) (y : V), Same H9 H10 → Dp K (cutH (L :: X) H10) y (dSpot tall (l, r, u)) → Same H1 (upd H10 L (.lst (acc ++ [y]))) ∧ (upd H10 L (.lst (acc ++ [y]))) L = some (.lst (acc ++ [y])) ∧ DpAll K (cutH (L :: X) (upd H10 L (.lst (acc ++ [y])))) (acc ++ [y]) ((spotsIn cuts k (j + 1)).map (dSpot tall)) := fun H10 y s10 hy => by
                  refine ⟨fun c o e => ?_, upd_same, ?_⟩
                  · rw [upd_ne (ne_of_none e hL)]
                    exact s10 _ _ (s59 _ _ (s14 c o e))
                  · rw [cut_in List.mem_cons_self, nextSome _ (hspot hall), List.map_append]
                    exact (hacc.same (same_cut (s59.trans s10))).append (.cons hy .nil)
                have lacc : acc.length < sizeLine := by
                  rw [hacc.length, List.length_map]
                  have := spotsIn_len cuts k j (by omega)
                  exact small1000 (by omega)
                refine ⟨_, rfl, _, rfl, l1, zs, rfl, et9, fun hw => ?_, fun hw p np => ?_⟩
                · have h3 : tall = 3 := by
                    have h2 := hw.2
                    rw [HT.sIx_nat, lz] at h2
                    omega
                  obtain ⟨w1, w2, w3⟩ := fin H9 (.ref l1) (Same.refl _) (by
                    unfold dSpot spotP
                    rw [h3]
                    exact ht9)
                  exact ⟨L, acc, _, rfl, rfl, s59 _ _ eL, lacc, _, _, _, _, _, _, _, _, rfl, w1, _, w2, w3⟩
                · rw [cut_take zs (show tall ≤ zs.length by omega)]
                  have s10 := Same.new (o := .tup (zs.take tall)) np
                  obtain ⟨w1, w2, w3⟩ := fin _ (.ref p) s10 (by
                    refine .tup (.inl (.inl (cut_upd (hX9.new np)))) ?_
                    have h1 := hdz9.same (same_cut s10)
                    have e : frs (spotP tall (l, r, u)) = (frs [mkRat l u, mkRat r u, mkRat ((u : Nat) - l - r) u]).take tall := by
                      unfold spotP frs
                      rw [List.map_take]
                    rw [e]
                    exact dp_take h1 tall)
                  exact ⟨L, acc, _, rfl, rfl, s10 _ _ (s59 _ _ eL), lacc, _, _, _, _, _, _, _, _, rfl, w1, _, w2, w3⟩
            · have hf : (cuts.map (holdsAt l r u)).all id = false := by
                cases h : (cuts.map (holdsAt l r u)).all id with
                | true => exact absurd h hall
                | false => rfl
              rw [hf]
              refine iteF ⟨_, _, _, _, _, _, _, _, rfl, s16, acc, s6 _ _ eL, ?_⟩
              rw [nextNone (hnone hall)]
              exact hacc.same (same_cut s6)
      · rintro σ H4 ⟨f5, f6, f7, f8, f9, f10, f11, f12, rfl, s14, acc, eL, hacc⟩
        refine ⟨_, _, _, _, _, _, _, _, _, rfl, s14, acc, eL, ?_⟩
        have e : spotsIn cuts (k + 1) 0 = spotsIn cuts k k := by
          unfold spotsIn
          rw [List.range_succ, List.flatMap_append]
          simp
        rw [e]
        have e2 : ((k : Nat) : Int).toNat = k := by omega
        rw [e2] at hacc
        exact hacc
    · rintro σ H2 ⟨f4, f5, f6, f7, f8, f9, f10, f11, f12, rfl, s12, acc, eL, hacc⟩
      have e2 : (xs.length : Int).toNat = cuts.length := by omega
      rw [e2] at hacc
      exact ⟨_, rfl, q H2 _ (s1.trans s12) ⟨L, acc, rfl, eL, nLX, hacc.same cut_more⟩⟩
end
end Cs
set_option Elab.async false
set_option linter.all false
set_option maxRecDepth 100000
set_option maxHeartbeats 8000000
/-! the law's cheapest -/
namespace Cs
open PySem PySem.Spec PyProof.Rows L2
def SpotOk (s : Spot) : Prop := -80000 ≤ s.1 ∧ s.1 ≤ 80000 ∧ -80000 ≤ s.2.1 ∧ s.2.1 ≤ 80000 ∧ 0 < s.2.2 ∧ s.2.2 ≤ 80000
theorem spotI_some {cuts : List Cut} {c1 c2 : Cut} {s : Spot} (h : spotI cuts c1 c2 = some s) : uOf c1 c2 ≠ 0 ∧ (cuts.map (holdsAt (lOf c1 c2) (rOf c1 c2) (uOf c1 c2).natAbs)).all id = true ∧ s = (lOf c1 c2, rOf c1 c2, (uOf c1 c2).natAbs) := by
  unfold spotI at h
  split at h
  · rename_i hc
    exact ⟨hc.1, hc.2, (Option.some.inj h).symm⟩
  · cases h
theorem mem_spots {cuts : List Cut} {s : Spot} (h : s ∈ mSpots cuts) : ∃ j k, j < k ∧ k < cuts.length ∧ spotI cuts (cuts.getD j zc) (cuts.getD k zc) = some s := by
  unfold mSpots spotsIn at h
  rcases List.mem_append.mp h with h | h
  · obtain ⟨k, hk, h⟩ := List.mem_flatMap.mp h
    obtain ⟨j, hj, h⟩ := List.mem_filterMap.mp h
    exact ⟨j, k, List.mem_range.mp hj, List.mem_range.mp hk, h⟩
  · obtain ⟨j, hj, h⟩ := List.mem_filterMap.mp h
    have := List.mem_range.mp hj
    omega
theorem spots_mem {cuts : List Cut} {s : Spot} {j k : Nat} (hj : j < k) (hk : k < cuts.length) (h : spotI cuts (cuts.getD j zc) (cuts.getD k zc) = some s) : s ∈ mSpots cuts := by
  unfold mSpots spotsIn
  exact List.mem_append.mpr (.inl (List.mem_flatMap.mpr ⟨k, List.mem_range.mpr hk, List.mem_filterMap.mpr ⟨j, List.mem_range.mpr hj, h⟩⟩))
theorem getD_mem {cuts : List Cut} {j : Nat} (h : j < cuts.length) : cuts.getD j zc ∈ cuts := by
  rw [List.getD_eq_getElem?_getD, List.getElem?_eq_getElem h]
  exact List.getElem_mem h
theorem spots_ok {cuts : List Cut} (ok : ∀ c ∈ cuts, CutOk c) {s : Spot} (h : s ∈ mSpots cuts) : SpotOk s := by
  obtain ⟨j, k, hj, hk, h⟩ := mem_spots h
  obtain ⟨h1, _, rfl⟩ := spotI_some h
  have o1 := ok _ (getD_mem (show j < cuts.length by omega))
  have o2 := ok _ (getD_mem hk)
  have a := u_bd o1 o2
  have b := l_bd o1 o2
  have c := r_bd o1 o2
  refine ⟨b.1, b.2, c.1, c.2, ?_, ?_⟩
  · show 0 < (uOf _ _).natAbs
    omega
  · show (uOf _ _).natAbs ≤ 80000
    omega
theorem spot_sz {tall : Nat} {s : Spot} (h : SpotOk s) : SzAll 400 (spotP tall s) := fun q hq => by
  obtain ⟨h1, h2, h3, h4, h5, h6⟩ := h
  have hm := List.mem_of_mem_take hq
  have e18 : (2 : Nat) ^ 18 = 262144 := by decide
  have big : ∀ n, n < 2 ^ 18 → n < 2 ^ 400 := fun n hn => Nat.lt_of_lt_of_le hn (Nat.pow_le_pow_right (by decide) (by decide))
  simp only [List.mem_cons, List.not_mem_nil, or_false] at hm
  rcases hm with rfl | rfl | rfl
  · exact sz_mk h5 (big _ (by omega)) (big _ (by omega))
  · exact sz_mk h5 (big _ (by omega)) (big _ (by omega))
  · exact sz_mk h5 (big _ (by omega)) (big _ (by omega))
theorem spot_len {tall : Nat} (h : tall ≤ 3) (s : Spot) : (spotP tall s).length = tall := by
  unfold spotP
  rw [List.length_take]
  simp
  omega
def mCosts (tall : Nat) (fees : List Int) (cuts : List Cut) : List Rat := (mSpots cuts).map fun s => mWeighed (spotP tall s) fees
theorem weighed_sz {ps : List Rat} {ns : List Int} (hz : SzAll 400 ps) (hn : ∀ n ∈ ns, n.natAbs < 2 ^ 20) (hl : ps.length ≤ 4) : Sz 2000 (mWeighed ps ns) := by
  have zw : SzAll 420 (List.zipWith (fun p (n : Int) => p * (n : Rat)) ps ns) := fun r hr2 => by
    obtain ⟨i, hi, e⟩ := List.mem_iff_getElem.mp hr2
    rw [List.getElem_zipWith] at e
    rw [← e]
    exact (sz_times (hz _ (List.getElem_mem _)) (sz_num (hn _ (List.getElem_mem _)) (by decide))).mono (by decide)
  have lw : (List.zipWith (fun p (n : Int) => p * (n : Rat)) ps ns).length ≤ 4 := by
    rw [List.length_zipWith]
    omega
  have := mTotal_sz zw _ (Nat.le_refl _)
  rw [List.take_length] at this
  exact this.mono (by omega)
/-- the least of some costs, or None -/
def LeastV (K : PySem.W.Frag) (H : Hp) (v : V) (costs : List Rat) : Prop := (costs = [] ∧ v = .non) ∨ ∃ q, Fr K H v q ∧ q ∈ costs ∧ ∀ r ∈ costs, q ≤ r
theorem flat_fr (q : Rat) : Flat 1 (fr q) := flat_tup fun d hd => by
  rcases List.mem_cons.mp hd with rfl | hd
  · exact flat_int _
  · rcases List.mem_singleton.mp hd with rfl
    exact flat_int _
theorem flat_row (qs : List Rat) : Flat 2 (fRow qs) := flat_list fun d hd => by
  obtain ⟨q, _, rfl⟩ := List.mem_map.mp hd
  exact flat_fr q
theorem fees_bd {fees : List Int} (h : FeesOk fees) : ∀ n ∈ fees, n.natAbs < 2 ^ 20 := fun n hn => by
  have := h n hn
  have e : (2 : Nat) ^ 20 = 1048576 := by decide
  omega
section
variable {P : Program} {w : World} {K : PySem.W.Frag} {mg : Str → Option Value} {base : Heap}
abbrev sLCheap : Stmt := topS 113
abbrev nLCheap : List Str := ["_law_tall", "_law_wants_here", "_law_fees", "_law_some", "_law_blend"]
theorem scLCheap : FnScope nLCheap ["_law_tall", "_law_wants_here", "_law_fees"] (defScope sLCheap) := ⟨rfl, rfl, rfl, by decide +kernel, rfl, by decide +kernel, by decide +kernel⟩
def spLCheap (K : PySem.W.Frag) : Sp := fun vs H Q _ => ∃ (X : List Addr) (vw vf : V) (tall : Nat) (ws : List Want) (fees : List Int), vs = [.int tall, vw, vf] ∧ Xin X H ∧ Dp K (cutH X H) vw (.list (ws.map dWant)) ∧ Dp K (cutH X H) vf (iTup' fees) ∧ WantsOk tall ws ∧ fees.length = tall ∧ FeesOk fees ∧
  ∀ H' v, Same H H' → LeastV K H' v (mCosts tall fees (mCuts tall ws)) → Q v H'
theorem c_lcheap (D : DefAt K mg "_law_cheapest" sLCheap ["_law_tall", "_law_wants_here", "_law_fees"]) (Sp' : Cal P w K mg base 2 "_law_spots" ["_law_tall", "_law_wants_here"] (spLSpots K)) (Su : Cal P w K mg base 3 "_law_sum" ["_law_shares_here", "_law_numbers"] (spWeighed K)) (Sn : Cal P w K mg base 2 "_law_span" ["_law_some"] (spLSpan K)) :
    Cal P w K mg base 4 "_law_cheapest" ["_law_tall", "_law_wants_here", "_law_fees"] (spLCheap K) := by
  refine D.cal fun f fd F => ?_
  refine F.ok scLCheap (fun vs H Q E h => ?_) (fun cdv A outer s H vs Q E hr h => ?_)
  · obtain ⟨X, vw, vf, tall, ws, fees, rfl, _⟩ := h
    rfl
  · obtain ⟨X, vw, vf, tall, ws, fees, rfl, hX, hw, hf, ok, lf, okf, q⟩ := h
    refine ⟨_, pss_cons (ps_setLc (i := 3) (own := [("_law_blend", 4)]) (g := gName 4) (tt := tYes) rfl scLCheap.nd rfl rfl (sw_true rfl rfl rfl (by decide +kernel)) (pi_list (pe_cal Sp' hr (pa_cons (pv 0) (pa_cons (pv 1) pa_nil)))) (blkOk_by (own := [("_law_blend", 4)]) (N := nLCheap) (sc := defScope sLCheap) (by decide +kernel))
        (fun _ _ _ _ _ => pg_name (i := 4) scLCheap.nd rfl (.inl rfl)) (fun _ _ _ _ _ => pts_nil) (fun _ _ _ _ _ => pe_cal Su hr (pa_cons (pv 4) (pa_cons (pv 2) pa_nil))))
      (pss_one (ps_ret (pe_ifExp (pt_cmpR (op_neK K hr.units) (pv 3) (pe_lst pa_nil) (nomark _)) (pe_ix (ix_tupK K) (pe_cal Sn hr (pa_cons (pv 3) pa_nil)) pe_int (fun _ _ => rfl)) pe_non))), ?_⟩
    have t3 := ok.t3
    have cok := cuts_ok ok
    have lcu := cuts_len ok
    refine ⟨_, rfl, _, rfl, X, vw, tall, ws, rfl, hX, hw, ok, fun H1 v1 s1 hv1 => ?_⟩
    obtain ⟨a, xs, rfl, ea, na, hd⟩ := hv1
    have lsp : (mSpots (mCuts tall ws)).length ≤ 200 := by
      have := spotsIn_len (mCuts tall ws) (mCuts tall ws).length 0 lcu
      unfold mSpots
      omega
    have lx : xs.length = (mSpots (mCuts tall ws)).length := by rw [hd.length, List.length_map]
    refine ⟨a, rfl, ⟨_, .inl (.inl ea)⟩, fun D1 hD1 => ?_⟩
    refine lc_map (K := K) walk_list X (frs (mCosts tall fees (mCuts tall ws))) (hX.same s1) hD1 (by rw [frs_len, mCosts, List.length_map, lx]) (by omega) (fun H2 s2 => s2.seq (.inl (.inl ea))) ?_ fun H2 s2 ho => ?_
    · rintro i x H2 H3 d Q2 hd2 s2 sc hX2 ⟨rfl, ex⟩ kk
      obtain ⟨d0, ed0, hx⟩ := hd.at ex
      rw [List.getElem?_map] at ed0
      cases esp : (mSpots (mCuts tall ws))[i]? with
      | none =>
        rw [esp] at ed0
        cases ed0
      | some sp =>
        rw [esp] at ed0
        cases ed0
        have e1 : d = fr (mWeighed (spotP tall sp) fees) := by
          unfold frs mCosts at hd2
          rw [List.getElem?_map, List.getElem?_map, esp] at hd2
          exact (Option.some.inj hd2).symm
        subst e1
        have sok := spots_ok cok (List.mem_of_getElem? esp)
        refine ⟨rfl, _, rfl, _, rfl, D1 :: X, x, vf, spotP tall sp, fees, rfl, hX2, hx.same sc, ?_, by rw [spot_len t3, lf], by rw [spot_len t3]; omega, spot_sz sok, fees_bd okf, fun H4 v4 s4 hv4 => kk _ _ s4 (hv4.cut (hX2.same s4)).dp⟩
        exact ((hf.same (same_cut s1)).same sc)
    · have s02 := s1.trans s2
      have hX2 := hX.same s02
      have ho2 := ho.same cut_same
      refine ⟨_, rfl, Nat.zero_le _, fun l nl => ⟨fRow (mCosts tall fees (mCuts tall ws)), .list [], ho2.same (Same.new nl), .lst (.inl (.inl upd_same)) .nil, (flat_row _).shaped (by decide), rfl, _, rfl, ?_⟩⟩
      have s3 : Same H2 (upd H2 l (.lst [])) := Same.new nl
      have hz : SzAll 2000 (mCosts tall fees (mCuts tall ws)) := fun r hr2 => by
        obtain ⟨sp, hsp, rfl⟩ := List.mem_map.mp hr2
        exact weighed_sz (spot_sz (spots_ok cok hsp)) (fees_bd okf) (by rw [spot_len t3]; omega)
      have lc : (mCosts tall fees (mCuts tall ws)).length ≤ 1000 := by
        rw [mCosts, List.length_map]
        omega
      cases hc : mCosts tall fees (mCuts tall ws) with
      | nil =>
        rw [hc] at q
        have e : (!PyData.eqv (fRow []) (.list [])) = false := by simp [fRow, frs, PyData.eqv, PyData.eqvAll]
        rw [e]
        exact iteF (q _ _ (s02.trans s3) (.inl ⟨rfl, rfl⟩))
      | cons c r =>
        have e : (!PyData.eqv (fRow (c :: r)) (.list [])) = true := by simp [fRow, frs, PyData.eqv, PyData.eqvAll]
        rw [e]
        refine iteT ⟨_, rfl, X, _, mCosts tall fees (mCuts tall ws), rfl, hX2.same s3, ho.same (same_cut s3), by rw [hc]; simp, lc, hz, fun H4 T0 lv gv q0 s4 hT hq hm hle => ?_⟩
        exact ⟨T0, _, _, _, rfl, rfl, .inl (.inl hT), atI_nat (j := 0) rfl, q _ _ (s02.trans (s3.trans s4)) (.inr ⟨q0, hq, hm, hle⟩)⟩
end
end Cs
set_option Elab.async false
set_option linter.all false
set_option maxRecDepth 100000
set_option maxHeartbeats 8000000
/-! the law's mug: _law_sip, _law_of, _law_stretch -/
namespace Cs
open PySem PySem.Spec PyProof.Rows L2
/-- the mug stands at a -/
def MugAt (H : Hp) (a : Addr) : Prop := ∃ e s c : Int, H a = some (.lst [.int e, .int s, .int c]) ∧ 0 ≤ e ∧ 0 ≤ s ∧ s < 2147482819
/-- only the mug at a has changed -/
def Draw (a : Addr) (H H' : Hp) : Prop := (∀ b o, H b = some o → b ≠ a → H' b = some o) ∧ MugAt H' a
theorem Draw.refl {a : Addr} {H : Hp} (m : MugAt H a) : Draw a H H := ⟨fun _ _ e _ => e, m⟩
theorem Draw.trans {a : Addr} {H H1 H2 : Hp} (d : Draw a H H1) (e : Draw a H1 H2) : Draw a H H2 := ⟨fun b o h n => e.1 b o (d.1 b o h n) n, e.2⟩
theorem MugAt.same {a : Addr} {H H' : Hp} (m : MugAt H a) (s : Same H H') : MugAt H' a := by
  obtain ⟨e, t, c, h, r⟩ := m
  exact ⟨e, t, c, s _ _ h, r⟩
theorem Draw.same {a : Addr} {H H1 H2 : Hp} (d : Draw a H H1) (s : Same H1 H2) : Draw a H H2 := ⟨fun b o h n => s _ _ (d.1 b o h n), d.2.same s⟩
theorem Draw.after {a : Addr} {H H1 H2 : Hp} (s : Same H H1) (d : Draw a H1 H2) : Draw a H H2 := ⟨fun b o h n => d.1 b o (s _ _ h) n, d.2⟩
theorem Draw.cut {a : Addr} {X : List Addr} {H H' : Hp} (d : Draw a H H') (ha : a ∈ X) : Same (cutH X H) (cutH X H') := fun b o h => by
  obtain ⟨h1, h2⟩ := cut_at h
  exact cut_mk (d.1 b o h1 (fun z => h2 (by rw [z]; exact ha))) h2
theorem Draw.xin {a : Addr} {X : List Addr} {H H' : Hp} (d : Draw a H H') (x : Xin X H) : Xin X H' := fun b hb => by
  by_cases e : b = a
  · subst e
    obtain ⟨_, _, _, h, _⟩ := d.2
    exact ⟨_, h⟩
  · obtain ⟨xs, h⟩ := x b hb
    exact ⟨xs, d.1 b _ h e⟩
theorem Draw.seq {a t : Addr} {K : PySem.W.Frag} {H H' : Hp} {xs : List V} (d : Draw a H H') (h : SqL K H t xs) (n : t ≠ a) : SqL K H' t xs := by
  rcases h with (h | ⟨o, h⟩) | h
  · exact .inl (.inl (d.1 _ _ h n))
  · exact .inl (.inr ⟨o, d.1 _ _ h n⟩)
  · exact .inr h
section
variable {P : Program} {w : World} {K : PySem.W.Frag} {mg : Str → Option Value} {base : Heap}
abbrev sSip : Stmt := topS 95
abbrev nSip : List Str := ["_law_mug_here", "_law_top", "_law_old", "_law_digit"]
theorem scSip : FnScope nSip ["_law_mug_here", "_law_top"] (defScope sSip) := ⟨rfl, rfl, rfl, by decide +kernel, rfl, by decide +kernel, by decide +kernel⟩
def spSip : Sp := fun vs H Q _ => ∃ (a : Addr) (top : Int), vs = [.ref a, .int top] ∧ MugAt H a ∧ 1 ≤ top ∧ top ≤ 1000 ∧ ∀ H' n, Draw a H H' → 0 ≤ n → n < top → Q (.int n) H'
theorem c_sip (D : DefAt K mg "_law_sip" sSip ["_law_mug_here", "_law_top"]) (T : Bn mg) (dm : mg "divmod" = none) : Cal P w K mg base 1 "_law_sip" ["_law_mug_here", "_law_top"] spSip := by
  refine D.cal fun f fd F => ?_
  refine F.ok scSip (fun vs H Q E h => ?_) (fun cdv A outer s H vs Q E hr h => ?_)
  · obtain ⟨a, top, rfl, _⟩ := h
    rfl
  · obtain ⟨a, top, rfl, ⟨e, st, c, ea, he, hs0, hs1⟩, ht1, ht2, q⟩ := h
    refine ⟨_, pss_cons (ps_asg (pe_op op_add (pe_ix (ix_lstK K) (pv 0) pe_int (fun _ _ => rfl)) pe_int) (pg_sub (pv 0) pe_int set_list (fun _ => rfl)))
      (pss_cons (ps_set (i := 2) scSip.nd rfl (.inl rfl) (pe_callTy call_int1 (by rfl) T.int (by decide +kernel) (pa_cons (pe_ix (ix_lstK K) (pv 0) pe_int (fun _ _ => rfl)) pa_nil)))
      (pss_cons (ps_asg (pe_op op_mod (pe_callTy call_int1 (by rfl) T.int (by decide +kernel) (pa_cons (pe_op op_add (pe_op op_add (pe_op op_mul (pv 2) (pe_op op_add (pe_op op_mod (pe_callTy call_int1 (by rfl) T.int (by decide +kernel) (pa_cons (pv 2) pa_nil)) pe_int) pe_int)) (pe_op op_mul pe_int (pe_ix (ix_lstK K) (pv 0) pe_int (fun _ _ => rfl)))) pe_int) pa_nil)) pe_int)
        (pg_sub (pv 0) pe_int set_list (fun _ => rfl)))
      (pss_cons (ps_if (pt_cmpR op_gt (pe_ix (ix_lstK K) (pv 0) pe_int (fun _ _ => rfl)) pe_int (nomark _))
        (pss_cons (ps_asg (pe_callB call_divmod (by rfl) dm (by decide +kernel) (pa_cons (pe_ix (ix_lstK K) (pv 0) pe_int (fun _ _ => rfl)) (pa_cons (pv 1) pa_nil))) (pg_tup rfl (pgs_cons (pg_sub (pv 0) pe_int set_list (fun _ => rfl)) (pgs_cons (pg_name (i := 3) scSip.nd rfl (.inl rfl)) pgs_nil)))) (pss_one (ps_ret (pv 3)))) pss_nil)
      (pss_one (ps_ret (pe_op op_mod (pe_callTy call_int1 (by rfl) T.int (by decide +kernel) (pa_cons (pe_op op_fdiv (pe_ix (ix_lstK K) (pv 0) pe_int (fun _ _ => rfl)) pe_int) pa_nil)) (pv 1))))))), ?_⟩
    have z0 : ∀ {x y z : V}, atI [x, y, z] 0 = some x := fun {x y z} => atI_nat (j := 0) rfl
    have z1 : ∀ {x y z : V}, atI [x, y, z] 1 = some y := fun {x y z} => atI_nat (j := 1) rfl
    have z2 : ∀ {x y z : V}, atI [x, y, z] 2 = some z := fun {x y z} => atI_nat (j := 2) rfl
    refine ⟨_, rfl, a, _, _, _, rfl, rfl, .inl (.inl ea), z2, _, _, rfl, rfl, _, rfl, a, _, _, 2, rfl, rfl, ea, rfl, ?_⟩
    have d1 : Draw a H (upd H a (.lst [.int e, .int st, .int (c + 1)])) := ⟨fun b o h n => by rw [upd_ne n]; exact h, e, st, c + 1, upd_same, he, hs0, hs1⟩
    have e1 : (upd H a (.lst [.int e, .int st, .int (c + 1)])) a = some (.lst [.int e, .int st, .int (c + 1)]) := upd_same
    show tSeq _ _ _ _ (upd H a (.lst [.int e, .int st, .int (c + 1)]))
    generalize (upd H a (.lst [.int e, .int st, .int (c + 1)])) = H1 at d1 e1 ⊢
    refine ⟨_, rfl, a, _, _, _, rfl, rfl, .inl (.inl e1), z1, .inl ⟨st, rfl, ?_⟩⟩
    refine ⟨_, rfl, _, rfl, .inl ⟨st, rfl, _, _, rfl, rfl, (by show (0 : Int) < 24001; decide), _, _, rfl, rfl, _, _, rfl, rfl, .inl ⟨by omega, by omega⟩, _, rfl, a, _, _, _, rfl, rfl, .inl (.inl e1), z2, _, _, rfl, rfl, .inl ⟨by decide, by decide⟩, _, _, rfl, rfl, _, _, rfl, rfl, .inl ⟨_, rfl, _, _, rfl, rfl, (by show (0 : Int) < 2147482819; decide), ?_⟩⟩⟩
    refine ⟨_, rfl, a, _, _, 1, rfl, rfl, e1, rfl, ?_⟩
    show tSeq _ _ _ _ (upd H1 a (.lst [.int e, .int ((st * (st % 24001 + 19001) + 58013 * (c + 1) + 73) % 2147482819), .int (c + 1)]))
    generalize hN : (st * (st % 24001 + 19001) + 58013 * (c + 1) + 73) % 2147482819 = N
    have hN0 : 0 ≤ N := by rw [← hN]; exact Int.emod_nonneg _ (by decide)
    have hN1 : N < 2147482819 := by rw [← hN]; exact Int.emod_lt_of_pos _ (by decide)
    have d2 : Draw a H (upd H1 a (.lst [.int e, .int N, .int (c + 1)])) := ⟨fun b o h n => by rw [upd_ne n]; exact d1.1 b o h n, e, N, c + 1, upd_same, he, hN0, hN1⟩
    have e2 : (upd H1 a (.lst [.int e, .int N, .int (c + 1)])) a = some (.lst [.int e, .int N, .int (c + 1)]) := upd_same
    generalize (upd H1 a (.lst [.int e, .int N, .int (c + 1)])) = H2 at d2 e2 ⊢
    refine ⟨_, rfl, a, _, _, _, rfl, rfl, .inl (.inl e2), z0, _, _, rfl, rfl, _, rfl, ite2 (fun hpos => ?_) (fun _ => ?_)⟩
    · refine ⟨_, rfl, a, _, _, _, rfl, rfl, .inl (.inl e2), z0, _, rfl, e, top, rfl, ⟨by omega, by omega⟩, fun t nt => ?_⟩
      have nta : t ≠ a := fun z => by
        rw [z, e2] at nt
        cases nt
      have e3 : (upd H2 t (.tup [.int (e / top), .int (e % top)])) a = some (.lst [.int e, .int N, .int (c + 1)]) := by
        rw [upd_ne nta.symm]
        exact e2
      refine ⟨t, _, rfl, .inl (.inl upd_same), rfl, _, _, rfl, _, rfl, a, _, _, 0, rfl, rfl, e3, rfl, _, _, rfl, rfl, _, rfl, ?_⟩
      have h0 : 0 ≤ e % top := Int.emod_nonneg _ (by omega)
      have h1 : e % top < top := Int.emod_lt_of_pos _ (by omega)
      have h2 : 0 ≤ e / top := Int.ediv_nonneg he (by omega)
      refine q _ (e % top) ⟨fun b o h n => ?_, e / top, N, c + 1, upd_same, h2, hN0, hN1⟩ h0 h1
      rw [upd_ne n]
      exact Same.new nt _ _ (d2.1 b o h n)
    · refine ⟨_, rfl, a, _, _, _, rfl, rfl, .inl (.inl e2), z1, _, _, rfl, rfl, ⟨by decide, by decide⟩, .inl ⟨_, rfl, _, rfl, _, _, rfl, rfl, by omega, ?_⟩⟩
      exact q _ _ d2 (Int.emod_nonneg _ (by omega)) (Int.emod_lt_of_pos _ (by omega))
abbrev sLOf : Stmt := topS 96
theorem scLOf : FnScope ["_law_mug_here", "_law_things"] ["_law_mug_here", "_law_things"] (defScope sLOf) := ⟨rfl, rfl, rfl, by decide +kernel, rfl, by decide +kernel, by decide +kernel⟩
def spLOf (K : PySem.W.Frag) : Sp := fun vs H Q _ => ∃ (a t : Addr) (xs : List V), vs = [.ref a, .ref t] ∧ MugAt H a ∧ t ≠ a ∧ SqL K H t xs ∧ 1 ≤ xs.length ∧ xs.length ≤ 1000 ∧ ∀ (H' : Hp) (n : Nat) (x : V), Draw a H H' → xs[n]? = some x → Q x H'
theorem c_lof (D : DefAt K mg "_law_of" sLOf ["_law_mug_here", "_law_things"]) (T : Bn mg) (Si : Cal P w K mg base 1 "_law_sip" ["_law_mug_here", "_law_top"] spSip) : Cal P w K mg base 2 "_law_of" ["_law_mug_here", "_law_things"] (spLOf K) := by
  refine D.cal fun f fd F => ?_
  refine F.ok scLOf (fun vs H Q E h => ?_) (fun cdv A outer s H vs Q E hr h => ?_)
  · obtain ⟨a, t, xs, rfl, _⟩ := h
    rfl
  · obtain ⟨a, t, xs, rfl, hm, nta, hx, l1, l2, q⟩ := h
    refine ⟨_, pss_one (ps_ret (pe_ix (ix_lstK K) (pv 1) (pe_cal Si hr (pa_cons (pv 0) (pa_cons (pe_callB call_len_seq (by rfl) T.len PySem.boot_len (pa_cons (pv 1) pa_nil)) pa_nil))) (fun _ _ => rfl))), ?_⟩
    refine ⟨_, rfl, _, rfl, _, rfl, t, xs, rfl, .inl hx, a, (xs.length : Nat), rfl, hm, by omega, by omega, fun H' n d h0 h1 => ?_⟩
    obtain ⟨k, rfl⟩ : ∃ k : Nat, n = k := ⟨n.toNat, by omega⟩
    have hk : k < xs.length := by omega
    exact ⟨t, xs, _, _, rfl, rfl, d.seq hx nta, atI_nat (List.getElem?_eq_getElem hk), q H' k _ d (List.getElem?_eq_getElem hk)⟩
/-- the bounds of a stretch that is drawn -/
def SB (p : Int × Int) : Prop := -2 ≤ p.1 ∧ p.1 ≤ p.2 ∧ p.2 ≤ 11
abbrev sLStr : Stmt := topS 102
theorem scLStr : FnScope ["_law_mug_here", "_law_least"] ["_law_mug_here"] (defScope sLStr) := ⟨rfl, rfl, rfl, by decide +kernel, rfl, by decide +kernel, by decide +kernel⟩
def spLStr : Sp := fun vs H Q _ => ∃ (a : Addr), vs = [.ref a] ∧ MugAt H a ∧ ∀ H' T (p : Int × Int), Draw a H H' → H' T = some (.tup [.int p.1, .int p.2]) → SB p → Q (.ref T) H'
theorem c_lstr (D : DefAt K mg "_law_stretch" sLStr ["_law_mug_here"]) (Si : Cal P w K mg base 1 "_law_sip" ["_law_mug_here", "_law_top"] spSip) (Of : Cal P w K mg base 2 "_law_of" ["_law_mug_here", "_law_things"] (spLOf K)) : Cal P w K mg base 3 "_law_stretch" ["_law_mug_here"] spLStr := by
  refine D.cal fun f fd F => ?_
  refine F.ok scLStr (fun vs H Q E h => ?_) (fun cdv A outer s H vs Q E hr h => ?_)
  · obtain ⟨a, rfl, _⟩ := h
    rfl
  · obtain ⟨a, rfl, hm, q⟩ := h
    refine ⟨_, pss_cons (ps_set (i := 1) scLStr.nd rfl (.inl rfl) (pe_op op_sub (pe_cal Si hr (pa_cons (pv 0) (pa_cons pe_int pa_nil))) pe_int))
      (pss_one (ps_ret (pe_tup (pa_cons (pv 1) (pa_cons (pe_op op_add (pv 1) (pe_cal Of hr (pa_cons (pv 0) (pa_cons (pe_lst (pa_cons pe_int (pa_cons pe_int (pa_cons pe_int (pa_cons pe_int (pa_cons pe_int pa_nil)))))) pa_nil)))) pa_nil))))), ?_⟩
    refine ⟨_, rfl, a, 10, rfl, hm, by decide, by decide, fun H1 n d1 h0 h1 => ⟨_, _, rfl, rfl, _, rfl, _, rfl, _, rfl, (by show 5 ≤ sizeLine; decide), fun l nl => ?_⟩⟩
    have s2 : Same H1 (upd H1 l (.lst [.int 0, .int 0, .int 1, .int 2, .int 4])) := Same.new nl
    have nla : l ≠ a := fun z => by
      obtain ⟨_, _, _, ea, _⟩ := d1.2
      rw [z, ea] at nl
      cases nl
    refine ⟨a, l, _, rfl, d1.2.same s2, nla, .inl (.inl upd_same), by decide, by decide, fun H3 k x d3 ex => ?_⟩
    have hx : ∃ m : Int, x = .int m ∧ 0 ≤ m ∧ m ≤ 4 := by
      have hk : k < 5 := (List.getElem?_eq_some_iff.mp ex).1
      rcases (show k = 0 ∨ k = 1 ∨ k = 2 ∨ k = 3 ∨ k = 4 by omega) with rfl | rfl | rfl | rfl | rfl <;> cases ex <;> exact ⟨_, rfl, by decide, by decide⟩
    obtain ⟨m, rfl, m0, m4⟩ := hx
    refine ⟨_, _, rfl, rfl, (by show 2 ≤ sizeLine; decide), fun T nT => ?_⟩
    refine q _ T (n - 2, n - 2 + m) ?_ upd_same ⟨?_, ?_, ?_⟩
    · exact ((d1.same s2).trans d3).same (Same.new nT)
    · show -2 ≤ n - 2
      omega
    · show n - 2 ≤ n - 2 + m
      omega
    · show n - 2 + m ≤ 11
      omega
end
end Cs
set_option Elab.async false
set_option linter.all false
set_option maxRecDepth 100000
set_option maxHeartbeats 8000000
/-! the law's body -/
namespace Cs
open PySem PySem.Spec PyProof.Rows L2
theorem Draw.dp {a : Addr} {X : List Addr} {K : PySem.W.Frag} {H H' : Hp} {v : V} {d : PyData} (w : Draw a H H') (ha : a ∈ X) (h : Dp K (cutH X H) v d) : Dp K (cutH X H') v d := h.same (w.cut ha)
/-- the body drawn -/
structure BodyD (b : Body) (tall wide : Nat) : Prop where
  len : b.length = tall
  wd : ∀ r ∈ b, r.length = wide
  sb : ∀ r ∈ b, ∀ p ∈ r, SB p
section
variable {J : It} {n : Nat} {G : Hp → Prop} {Y : Nat → Hp → V → Hp → Prop} {K : PySem.W.Frag}
/-- a comprehension that draws: each item to some datum that fits -/
theorem lc_draw (w : Walk J n G Y) {g : TG} {te : TE} {vs : List Nat} {σ : L2.St} {H1 : Hp} {D : Addr} {Qd : Hp → Prop} {a : Addr} (X : List Addr) (ha : a ∈ X) (Ok : Nat → PyData → Prop) (hX : Xin X H1) (hm : MugAt H1 a) (hD : H1 D = none) (hn2 : n ≤ 1000) (hG : ∀ H, Draw a H1 H → G H)
    (hs : ∀ i x H H' (Q : VK), i < n → Draw a H1 H → Xin (D :: X) H → Y i H x H' →
      (∀ y H3 d, Draw a H H3 → Dp K (cutH (D :: X) H3) y d → Ok i d → Q y H3) → g x (wipe σ vs) H' fun σ2 H2 => wipe σ2 vs = wipe σ vs ∧ te σ2 H2 Q)
    (hd : ∀ H ds, Draw a H1 H → ds.length = n → (∀ i d, ds[i]? = some d → Ok i d) → RawL K X H (.ref D) ds → Qd H) :
    ∃ W : Nat → Nat → Hp → Prop, (∃ m, W 0 m (upd H1 D (.lst []))) ∧ ∀ i m H, W i m H →
      (J.stop i H ∧ Qd H) ∨ (J.go i H ∧ ∃ Nx : Hp → Prop, (∀ H', Nx H' → ∃ m', m' < m ∧ W (i + 1) m' H') ∧ ∀ x H', J.yld i H x H' → g x (wipe σ vs) H' fun σ2 H2 => wipe σ2 vs = wipe σ vs ∧ tYes σ2 H2 fun b H3 =>
        if b = true then te σ2 H3 fun y H4 => ∃ acc, H4 D = some (.lst acc) ∧ acc.length < sizeLine ∧ Nx (upd H4 D (.lst (acc ++ [y]))) else Nx H3) := by
  have nDX : D ∉ X := hX.new hD
  have nDa : D ≠ a := fun z => nDX (by rw [z]; exact ha)
  refine lc_gen (K := K) w X (fun i H es => Draw a H1 H ∧ ∀ j d, es[j]? = some d → Ok j d) hn2 ⟨(Draw.refl hm).same (Same.new hD), fun j d e => by simp at e⟩ (fun i H es h => hG H h.1) (fun i H es xs h => ⟨⟨fun b o e n => ?_, ?_⟩, h.2⟩) ?_ ?_
  · rw [upd_ne (ne_of_none e hD)]
    exact h.1.1 b o e n
  · obtain ⟨e, s, c, h1, h2⟩ := h.1.2
    exact ⟨e, s, c, by rw [upd_ne nDa.symm]; exact h1, h2⟩
  · rintro i x H H' es xs Q hi hl ⟨s1, hok⟩ eD hall hy k
    refine hs i x H H' Q hi s1 ((s1.xin hX).cons eD) hy fun y H3 d s3 dy od => ?_
    refine k y H3 d (s3.1 _ _ eD nDa) (s3.cut (List.mem_cons_of_mem _ ha)) dy ⟨s1.trans s3, fun j d' e => ?_⟩
    by_cases hj : j < es.length
    · rw [List.getElem?_append_left hj] at e
      exact hok j d' e
    · have hj2 : j = es.length := by
        have := (List.getElem?_eq_some_iff.mp e).1
        rw [List.length_append] at this
        have : j < es.length + 1 := this
        omega
      subst hj2
      rw [List.getElem?_append_right (Nat.le_refl _), Nat.sub_self] at e
      cases e
      rw [hl]
      exact od
  · rintro H xs es hl ⟨s1, hok⟩ eD hall
    exact hd H es s1 hl hok ⟨D, xs, rfl, eD, nDX, hall.same cut_more⟩
end
/-- each datum is of a kind -/
theorem all_of {α : Type} {f : α → PyData} {Ok : α → Prop} : ∀ (ds : List PyData), (∀ (i : Nat) (d : PyData), ds[i]? = some d → ∃ a, d = f a ∧ Ok a) → ∃ as : List α, ds = as.map f ∧ ∀ a ∈ as, Ok a
  | [], _ => ⟨[], rfl, fun a h => by cases h⟩
  | d :: r, h => by
    obtain ⟨a, e, oa⟩ := h 0 d rfl
    obtain ⟨as, e2, o2⟩ := all_of r fun i d' e' => h (i + 1) d' (by simpa using e')
    refine ⟨a :: as, by rw [e, e2]; rfl, fun b hb => ?_⟩
    rcases List.mem_cons.mp hb with rfl | hb
    · exact oa
    · exact o2 b hb
section
variable {P : Program} {w : World} {K : PySem.W.Frag} {mg : Str → Option Value} {base : Heap}
abbrev sLBody : Stmt := topS 103
/-- the scope of the comprehension that a def returns -/
def retSc (st : Stmt) : Scope := match defBody st with
  | [.Return (some (.ListComp _ _ sc _)) _] => sc
  | _ => defScope st
/-- its free names that are cells of the def -/
def cellSc (outer scope : Scope) : Scope := { scope with names := scope.names.map fun (n, k) => if (k == NameKind.free && outer.kind == .function && outer.names.lookup n == some .cell) then (n, NameKind.cell) else (n, k) }
abbrev nLBody : List Str := ["_law_mug_here", "_law_tall", "_law_wide", "_law_spot", "_law_lap"]
theorem scLBody : FnScope nLBody ["_law_mug_here", "_law_tall", "_law_wide"] (defScope sLBody) := ⟨rfl, rfl, rfl, by decide +kernel, rfl, by decide +kernel, by decide +kernel⟩
def spLBody (K : PySem.W.Frag) : Sp := fun vs H Q _ => ∃ (X : List Addr) (a : Addr) (tall wide : Nat), vs = [.ref a, .int tall, .int wide] ∧ Xin X H ∧ a ∈ X ∧ MugAt H a ∧ tall ≤ 3 ∧ wide ≤ 3 ∧ ∀ H' v b, Draw a H H' → RawL K X H' v (b.map fun r => .list (r.map dSt)) → BodyD b tall wide → Q v H'
theorem c_lbody (D : DefAt K mg "_law_body" sLBody ["_law_mug_here", "_law_tall", "_law_wide"]) (T : Bn mg) (St : Cal P w K mg base 3 "_law_stretch" ["_law_mug_here"] spLStr) : Cal P w K mg base 4 "_law_body" ["_law_mug_here", "_law_tall", "_law_wide"] (spLBody K) := by
  refine D.cal fun f fd F => ?_
  refine F.ok scLBody (fun vs H Q E h => ?_) (fun cdv A outer s H vs Q E hr h => ?_)
  · obtain ⟨X, a, tall, wide, rfl, _⟩ := h
    rfl
  · obtain ⟨X, a, tall, wide, rfl, hX, ha, hm, t3, w3, q⟩ := h
    refine ⟨_, pss_one (ps_ret (pe_lc (own := [("_law_spot", 3)]) (g := gName 3) (tt := tYes) rfl scLBody.nd (pi_range1 (by rfl) T.range (pa_cons (pv 1) pa_nil)) (blkOk_by (own := [("_law_spot", 3)]) (N := nLBody) (sc := defScope sLBody) (by decide +kernel))
      (fun _ _ _ _ _ => pg_name (i := 3) scLBody.nd rfl (.inl rfl)) (fun _ _ _ _ _ => pts_nil)
      (fun _ _ _ _ _ => pe_lc (own := [("_law_lap", 4)]) (g := gName 4) (tt := tYes) rfl scLBody.nd (pi_range1 (by rfl) T.range (pa_cons (pv 2) pa_nil)) (blkOk_by (own := [("_law_lap", 4)]) (N := nLBody) (sc := cellSc (defScope sLBody) (retSc sLBody)) (by decide +kernel))
        (fun _ _ _ _ _ => pg_name (i := 4) scLBody.nd rfl (.inl rfl)) (fun _ _ _ _ _ => pts_nil) (fun _ _ _ _ _ => pe_cal St hr (pa_cons (pv 0) pa_nil))))), ?_⟩
    refine ⟨_, rfl, (tall : Nat), rfl, by omega, by omega, fun D1 hD1 => ?_⟩
    refine lc_draw (K := K) walk_rangeN X ha (fun _ d => ∃ r : List (Int × Int), d = .list (r.map dSt) ∧ r.length = wide ∧ ∀ p ∈ r, SB p) hX hm hD1 (by omega) (fun _ _ => trivial) ?_ ?_
    · rintro i x H2 H3 Q2 hi d2 hX2 ⟨rfl, rfl⟩ k
      refine ⟨rfl, ?_⟩
      refine ⟨_, rfl, (wide : Nat), rfl, by omega, by omega, fun D2 hD2 => ?_⟩
      refine lc_draw (K := K) walk_rangeN (D1 :: X) (List.mem_cons_of_mem _ ha) (fun _ d => ∃ p : Int × Int, d = dSt p ∧ SB p) hX2 d2.2 hD2 (by omega) (fun _ _ => trivial) ?_ ?_
      · rintro j x H4 H5 Q3 hj d4 hX4 ⟨rfl, rfl⟩ k2
        refine ⟨rfl, _, rfl, a, rfl, d4.2, fun H6 T0 p d6 eT sb => ?_⟩
        refine k2 _ _ (dSt p) d6 ?_ ⟨p, rfl, sb⟩
        have hX6 := d6.xin hX4
        exact .tup (tup_cut (.inl (.inl eT)) hX6) (.cons (.int _) (.cons (.int _) .nil))
      · intro H4 ds d4 lds hok hraw
        obtain ⟨r, rfl, hr2⟩ := all_of (f := dSt) (Ok := SB) ds (fun i d e => by
          obtain ⟨p, h1, h2⟩ := hok i d e
          exact ⟨p, h1, h2⟩)
        have lr : r.length = wide := by
          rw [List.length_map] at lds
          omega
        exact k _ _ (.list (r.map dSt)) d4 hraw.dp ⟨r, rfl, lr, hr2⟩
    · intro H2 ds d2 lds hok hraw
      obtain ⟨b, rfl, hb⟩ := all_of (f := fun r : List (Int × Int) => PyData.list (r.map dSt)) (Ok := fun r => r.length = wide ∧ ∀ p ∈ r, SB p) ds (fun i d e => hok i d e)
      have lb : b.length = tall := by
        rw [List.length_map] at lds
        omega
      exact q H2 _ b d2 hraw ⟨lb, fun r hr2 => (hb r hr2).1, fun r hr2 => (hb r hr2).2⟩
end
end Cs
set_option Elab.async false
set_option linter.all false
set_option maxRecDepth 100000
set_option maxHeartbeats 8000000
/-! the law's heads, table -/
namespace Cs
open PySem PySem.Spec PyProof.Rows L2
section
variable {X : Cx}
theorem call_lenK (K : PySem.W.Frag) (h : X.K = K := by rfl) : CallR X (.builtin "len") (fun xs H Q => ∃ p ys, xs = [.ref p] ∧ (SqL K H p ys ∨ SqT K H p ys) ∧ Q (.int ys.length) H) := h ▸ call_len_seq
theorem call_tupleK (K : PySem.W.Frag) (h : X.K = K := by rfl) : CallR X (.type "tuple") (fun xs H Q => ∃ p ys, xs = [.ref p] ∧ ((SqL K H p ys ∧ ∀ l, H l = none → Q (.ref l) (upd H l (.tup ys))) ∨ (SqT K H p ys ∧ Q (.ref p) H))) := h ▸ call_tuple_of
end
section
variable {X : Cx} {o e : Expr} {to : TE} {t : TA} {apos cpos : Pos}
/-- xs.pop(i), K said by hand -/
theorem pe_popK (K : PySem.W.Frag) (ho : PE X o to) (ha : PA X [e] t) (h : X.K = K := by rfl) (hbase : attributeBase o "pop" X.env (eval o X.env) = eval o X.env := by rfl)
    (hfew : ((backTo cpos (starEach [e] X.env)).all (fun x => !x.1) && (backToKw cpos (keywordEach [] X.env)).all (fun x => x.1.isSome)
      && decide (([e] : List Expr).length + ([] : List Keyword).length + (if ([] : List Keyword).isEmpty then 0 else 1) < 30)) = true := by rfl)
    (hline : (apos.endLine == cpos.line) = true := by rfl) (hs : starEach [e] X.env = (false, eval e X.env) :: starEach [] X.env := by rfl) (hplain : (backTo cpos (starEach [] X.env)).any (·.1) = false := by rfl) :
    PE X (.Call (.Attribute o "pop" apos) [e] [] cpos) (tBM K "list" rPopAt to t) := h ▸ pe_bm PySem.F.plainAttrs_list PySem.F.slot_list_pop PySem.F.type_list_pop mt_popAt ho ha hbase hfew hline hs hplain
end
theorem era_map {α β : Type} (f : α → β) : ∀ (l : List α) (i : Nat), (l.map f).eraseIdx i = (l.eraseIdx i).map f
  | [], _ => rfl
  | _ :: _, 0 => rfl
  | a :: l, i + 1 => by
    rw [List.map_cons, List.eraseIdx_cons_succ, List.eraseIdx_cons_succ, List.map_cons, era_map f l i]
theorem era_perm {α : Type} : ∀ (l : List α) (i : Nat) (h : i < l.length), (l[i] :: l.eraseIdx i).Perm l
  | [], i, h => by simp at h
  | a :: l, 0, h => List.Perm.refl _
  | a :: l, i + 1, h => by
    have h' : i < l.length := by simpa using h
    have ih := era_perm l i h'
    show (l[i] :: a :: l.eraseIdx i).Perm (a :: l)
    exact (List.Perm.swap a l[i] _).trans (ih.cons a)
def four : List Str := ["x", "y", "zest", "b"]
def six : List Str := ["ash", "bay", "elm", "fig", "oak", "yew"]
theorem four_ok : ∀ z ∈ four, NameOk z := by
  intro z hz
  unfold four at hz
  simp only [List.mem_cons, List.not_mem_nil, or_false] at hz
  rcases hz with rfl | rfl | rfl | rfl <;> exact ⟨by decide +kernel, by decide +kernel, by decide +kernel, by decide +kernel⟩
theorem six_ok : ∀ z ∈ six, NameOk z := by
  intro z hz
  unfold six at hz
  simp only [List.mem_cons, List.not_mem_nil, or_false] at hz
  rcases hz with rfl | rfl | rfl | rfl | rfl | rfl <;> exact ⟨by decide +kernel, by decide +kernel, by decide +kernel, by decide +kernel⟩
theorem four_nd : four.Nodup := by decide +kernel
theorem six_nd : six.Nodup := by decide +kernel
section
variable {P : Program} {w : World} {K : PySem.W.Frag} {mg : Str → Option Value} {base : Heap}
abbrev sLHeads : Stmt := topS 104
abbrev nLHeads : List Str := ["_law_mug_here", "_law_wide", "_law_some", "_law_lap"]
theorem scLHeads : FnScope nLHeads ["_law_mug_here", "_law_wide"] (defScope sLHeads) := ⟨rfl, rfl, rfl, by decide +kernel, rfl, by decide +kernel, by decide +kernel⟩
def spLHeads (K : PySem.W.Frag) : Sp := fun vs H Q _ => ∃ (X : List Addr) (a : Addr) (wide : Nat), vs = [.ref a, .int wide] ∧ Xin X H ∧ a ∈ X ∧ MugAt H a ∧ 1 ≤ wide ∧ wide ≤ 3 ∧ ∀ H' v hs, Draw a H H' → Dp K (cutH X H') v (dHeads hs) → HeadsOk hs → hs.length = wide → Q v H'
theorem c_lheads (D : DefAt K mg "_law_heads" sLHeads ["_law_mug_here", "_law_wide"]) (T : Bn mg) (Si : Cal P w K mg base 1 "_law_sip" ["_law_mug_here", "_law_top"] spSip) : Cal P w K mg base 2 "_law_heads" ["_law_mug_here", "_law_wide"] (spLHeads K) := by
  refine D.cal fun f fd F => ?_
  refine F.ok scLHeads (fun vs H Q E h => ?_) (fun cdv A outer s H vs Q E hr h => ?_)
  · obtain ⟨X, a, wide, rfl, _⟩ := h
    rfl
  · obtain ⟨X, a, wide, rfl, hX, ha, hm, w1, w3, q⟩ := h
    refine ⟨_, pss_cons (ps_set (i := 2) scLHeads.nd rfl (.inr rfl) (pe_lst (pa_cons pe_str (pa_cons pe_str (pa_cons pe_str (pa_cons pe_str pa_nil))))))
      (pss_one (ps_ret (pe_callTy (call_tupleK K) (by rfl) T.tup (by decide +kernel) (pa_cons (pe_lc (own := [("_law_lap", 3)]) (g := gName 3) (tt := tYes) rfl scLHeads.nd (pi_range1 (by rfl) T.range (pa_cons (pv 1) pa_nil)) (blkOk_by (own := [("_law_lap", 3)]) (N := nLHeads) (sc := defScope sLHeads) (by decide +kernel))
        (fun _ _ _ _ _ => pg_name (i := 3) scLHeads.nd rfl (.inl rfl)) (fun _ _ _ _ _ => pts_nil)
        (fun _ _ _ _ _ => pe_popK K (pv 2) (pa_cons (pe_cal Si hr (pa_cons (pv 0) (pa_cons (pe_callB (call_lenK K) (by rfl) T.len PySem.boot_len (pa_cons (pv 2) pa_nil)) pa_nil))) pa_nil))) pa_nil)))), ?_⟩
    refine ⟨(by show 4 ≤ sizeLine; decide), fun S nS => ?_⟩
    have nSX : S ∉ X := hX.new nS
    have nSa : S ≠ a := fun z => nSX (by rw [z]; exact ha)
    have s1 : Same H (upd H S (.lst (four.map V.str))) := Same.new nS
    have eS : (upd H S (.lst (four.map V.str))) S = some (.lst (four.map V.str)) := upd_same
    show gName 2 _ _ (upd H S (.lst (four.map V.str))) _
    generalize (upd H S (.lst (four.map V.str))) = H1 at s1 eS ⊢
    refine ⟨_, rfl, (wide : Nat), rfl, by omega, by omega, fun D1 hD1 => ?_⟩
    have hX1 := hX.same s1
    have hm1 := hm.same s1
    have nD1X : D1 ∉ X := hX1.new hD1
    have nD1a : D1 ≠ a := fun z => nD1X (by rw [z]; exact ha)
    have nD1S : D1 ≠ S := fun z => by
      rw [z, eS] at hD1
      cases hD1
    refine lc_gen (K := K) walk_rangeN (S :: X) (fun i H2 ds => (∀ b o, H1 b = some o → b ≠ a → b ≠ S → H2 b = some o) ∧ MugAt H2 a ∧ ∃ rest picked : List Str, H2 S = some (.lst (rest.map V.str)) ∧ ds = picked.map .str ∧ (picked ++ rest).Perm four) (by omega)
      ⟨fun b o e n1 n2 => by rw [upd_ne (ne_of_none e hD1)]; exact e, ?_, four, [], ?_, rfl, List.Perm.refl _⟩ (fun _ _ _ _ => trivial) (fun i H2 ds xs h => ⟨fun b o e n1 n2 => ?_, ?_, ?_⟩) ?_ ?_
    · obtain ⟨e, t, c, h1, h2⟩ := hm1
      exact ⟨e, t, c, by rw [upd_ne nD1a.symm]; exact h1, h2⟩
    · rw [upd_ne nD1S.symm]
      exact eS
    · rw [upd_ne (ne_of_none e hD1)]
      exact h.1 b o e n1 n2
    · obtain ⟨e, t, c, h1, h2⟩ := h.2.1
      exact ⟨e, t, c, by rw [upd_ne nD1a.symm]; exact h1, h2⟩
    · obtain ⟨rest, picked, h1, h2, h3⟩ := h.2.2
      exact ⟨rest, picked, by rw [upd_ne nD1S.symm]; exact h1, h2, h3⟩
    · rintro i x H2 H3 ds xs Q2 hi hl ⟨hk, hm2, rest, picked, eS2, rfl, perm⟩ eD hall ⟨rfl, rfl⟩ k
      have lp : picked.length = i := by
        rw [List.length_map] at hl
        exact hl
      have lr : rest.length = 4 - i := by
        have := perm.length_eq
        rw [List.length_append] at this
        have h4 : four.length = 4 := rfl
        omega
      have hi : i < wide := by
        have : i < ((wide : Nat) : Int).toNat := hi
        omega
      refine ⟨rfl, _, rfl, .inl ⟨rfl, _, .inl (.inl eS2)⟩, ?_⟩
      refine ⟨_, rfl, _, rfl, S, _, rfl, .inl (.inl (.inl eS2)), a, (rest.map V.str).length, rfl, hm2, by rw [List.length_map]; omega, by rw [List.length_map]; omega, fun H4 n d4 n0 n1 => ?_⟩
      obtain ⟨m, rfl⟩ : ∃ m : Nat, n = m := ⟨n.toNat, by omega⟩
      have hmr : m < rest.length := by
        rw [List.length_map] at n1
        omega
      have eS4 := d4.1 _ _ eS2 nSa
      have eD4 := d4.1 _ _ eD nD1a
      refine ⟨S, rest.map V.str, m, m, .str rest[m], rfl, rfl, eS4, by omega, by omega, ?_, by rw [List.getElem?_map, List.getElem?_eq_getElem hmr]; rfl, ?_⟩
      · have hmn : ¬ ((m : Int) < 0) := by omega
        unfold seqIndex?
        simp [hmr, hmn]
      have hX4 : ∀ b o, (cutH (D1 :: S :: X) H3) b = some o → (cutH (D1 :: S :: X) (upd H4 S (.lst ((rest.map V.str).eraseIdx m)))) b = some o := fun b o h => by
        obtain ⟨h1, h2⟩ := cut_at h
        have nb : b ≠ S := fun z => h2 (by rw [z]; exact List.mem_cons_of_mem _ List.mem_cons_self)
        have nba : b ≠ a := fun z => h2 (by rw [z]; exact List.mem_cons_of_mem _ (List.mem_cons_of_mem _ ha))
        refine cut_mk ?_ h2
        rw [upd_ne nb]
        exact d4.1 _ _ h1 nba
      refine k _ _ (.str rest[m]) (by rw [upd_ne nD1S]; exact eD4) hX4 (.str _) ⟨fun b o e n2 n3 => ?_, ?_, rest.eraseIdx m, picked ++ [rest[m]], ?_, ?_, ?_⟩
      · rw [upd_ne n3]
        exact d4.1 _ _ (hk b o e n2 n3) n2
      · obtain ⟨e, t, c, h1, h2⟩ := d4.2
        exact ⟨e, t, c, by rw [upd_ne nSa.symm]; exact h1, h2⟩
      · rw [upd_same, era_map]
      · rw [List.map_append]
        rfl
      · refine List.Perm.trans ?_ perm
        rw [List.append_assoc]
        exact List.Perm.append_left _ (era_perm rest m hmr)
    · rintro H2 xs ds hl ⟨hk, hm2, rest, picked, eS2, rfl, perm⟩ eD hall
      have lp : picked.length = wide := by
        rw [List.length_map] at hl
        have : picked.length = ((wide : Nat) : Int).toNat := hl
        omega
      have nd := (perm.nodup_iff.mpr four_nd)
      have ok : HeadsOk picked := ⟨by omega, by omega, fun z hz => four_ok z (perm.subset (List.mem_append_left _ hz)), (List.nodup_append.mp nd).1⟩
      refine ⟨_, xs, rfl, .inl ⟨.inl (.inl eD), fun l nl => ?_⟩⟩
      have s3 := Same.new (o := .tup xs) nl
      have nlX : l ∉ X := fun z => by
        by_cases e : l = a
        · obtain ⟨_, _, _, h1, _⟩ := hm2
          rw [e, h1] at nl
          cases nl
        · obtain ⟨ys, h1⟩ := hX1 l z
          rw [hk l _ h1 e (fun z2 => nSX (by rw [← z2]; exact z))] at nl
          cases nl
      refine q _ _ picked ⟨fun b o e n => ?_, hm2.same s3⟩ (.tup (.inl (.inl (cut_upd nlX))) ?_) ok lp
      · exact s3 _ _ (hk b o (s1 _ _ e) n (ne_of_none e nS))
      · rw [dp_strs hall]
        have : ∀ (H : Hp) (zs : List Str), DpAll K H (zs.map V.str) (zs.map .str) := fun H zs => by
          induction zs with
          | nil => exact .nil
          | cons z r ih => exact .cons (.str z) ih
        exact this _ _
end
end Cs
set_option Elab.async false
set_option linter.all false
set_option maxRecDepth 100000
set_option maxHeartbeats 8000000
/-! the law's table, aim, mug -/
namespace Cs
open PySem PySem.Spec PyProof.Rows L2
section
variable {P : Program} {w : World} {K : PySem.W.Frag} {mg : Str → Option Value} {base : Heap}
abbrev sLTab : Stmt := topS 105
abbrev nLTab : List Str := ["_law_heads_here", "_law_body_here", "_law_names", "_law_k"]
theorem scLTab : FnScope nLTab ["_law_heads_here", "_law_body_here"] (defScope sLTab) := ⟨rfl, rfl, rfl, by decide +kernel, rfl, by decide +kernel, by decide +kernel⟩
theorem fst_zip {α β : Type} : ∀ (l : List α) (r : List β), (l.zip r).map Prod.fst = l.take r.length
  | [], r => by simp
  | a :: l, [] => by simp
  | a :: l, b :: r => by
    rw [List.zip_cons_cons, List.map_cons, fst_zip l r]
    rfl
/-- the lines of the law's table -/
def mLines (b : Body) : Lines := six.zip b
theorem mLines_snd {b : Body} (h : b.length ≤ 6) : (mLines b).map Prod.snd = b := by
  unfold mLines
  exact List.map_snd_zip (by show b.length ≤ 6; exact h)
theorem mLines_len {b : Body} (h : b.length ≤ 6) : (mLines b).length = b.length := by
  have := congrArg List.length (mLines_snd h)
  rw [List.length_map] at this
  exact this
theorem mLines_ok {b : Body} {n : Nat} (h1 : 1 ≤ b.length) (h2 : b.length ≤ 6) (hw : ∀ r ∈ b, r.length = n) (hs : ∀ r ∈ b, ∀ p ∈ r, StOk p) : LinesOk n (mLines b) := by
  have mem : ∀ l ∈ mLines b, l.1 ∈ six ∧ l.2 ∈ b := fun l hl => by
    unfold mLines at hl
    exact ⟨(List.of_mem_zip hl).1, (List.of_mem_zip hl).2⟩
  refine ⟨by rw [mLines_len h2]; exact h1, by rw [mLines_len h2]; omega, fun l hl => six_ok _ (mem l hl).1, ?_, fun l hl => hw _ (mem l hl).2, fun l hl => hs _ (mem l hl).2⟩
  have e : (mLines b).map Prod.fst = six.take b.length := by
    unfold mLines
    exact fst_zip _ _
  rw [e]
  exact six_nd.sublist (List.take_sublist _ _)
def spLTab (K : PySem.W.Frag) (CT : Addr) : Sp := fun vs H Q _ => ∃ (X : List Addr) (vh vb : V) (hs : List Str) (b : Body), vs = [vh, vb] ∧ Xin X H ∧ Dp K (cutH X H) vh (dHeads hs) ∧ Dp K (cutH X H) vb (dBody b) ∧ HeadsOk hs ∧ 1 ≤ b.length ∧ b.length ≤ 3 ∧ (∀ r ∈ b, r.length = hs.length) ∧ (∀ r ∈ b, ∀ p ∈ r, StOk p) ∧
  ∀ H' v, Same H H' → TabAt K CT X H' v hs (mLines b) → Q v H'
theorem c_ltab {CT : Addr} (D : DefAt K mg "_law_table" sLTab ["_law_heads_here", "_law_body_here"]) (T : Bn mg) (I : ICal P w K mg base 7 CT "Table" ["self", "columns", "rows"] (spTbInit K CT)) : Cal P w K mg base 9 "_law_table" ["_law_heads_here", "_law_body_here"] (spLTab K CT) := by
  refine D.cal fun f fd F => ?_
  refine F.ok scLTab (fun vs H Q E h => ?_) (fun cdv A outer s H vs Q E hr h => ?_)
  · obtain ⟨X, vh, vb, hs, b, rfl, _⟩ := h
    rfl
  · obtain ⟨X, vh, vb, hs, b, rfl, hX, hh, hb, okh, l1, l3, hw, hst, q⟩ := h
    refine ⟨_, pss_cons (ps_set (i := 2) scLTab.nd rfl (.inr rfl) (pe_lst (pa_cons pe_str (pa_cons pe_str (pa_cons pe_str (pa_cons pe_str (pa_cons pe_str (pa_cons pe_str pa_nil))))))))
      (pss_one (ps_ret (pe_new I hr (pa_cons (pv 0) (pa_cons (pe_callTy (call_tupleK K) (by rfl) T.tup (by decide +kernel) (pa_cons (pe_lc (own := [("_law_k", 3)]) (g := gName 3) (tt := tYes) rfl scLTab.nd (pi_range1 (by rfl) T.range (pa_cons (pe_callB (call_lenK K) (by rfl) T.len PySem.boot_len (pa_cons (pv 1) pa_nil)) pa_nil)) (blkOk_by (own := [("_law_k", 3)]) (N := nLTab) (sc := defScope sLTab) (by decide +kernel))
        (fun _ _ _ _ _ => pg_name (i := 3) scLTab.nd rfl (.inl rfl)) (fun _ _ _ _ _ => pts_nil)
        (fun _ _ _ _ _ => pe_tup (pa_cons (pe_ix (ix_lstK K) (pv 2) (pv 3) (fun _ _ => rfl)) (pa_cons (pe_callTy (call_tupleK K) (by rfl) T.tup (by decide +kernel) (pa_cons (pe_ix (ix_lstK K) (pv 1) (pv 3) (fun _ _ => rfl)) pa_nil)) pa_nil)))) pa_nil)) pa_nil))))), ?_⟩
    refine ⟨(by show 6 ≤ sizeLine; decide), fun S nS => ?_⟩
    have s1 : Same H (upd H S (.lst (six.map V.str))) := Same.new nS
    have eS : (upd H S (.lst (six.map V.str))) S = some (.lst (six.map V.str)) := upd_same
    show gName 2 _ _ (upd H S (.lst (six.map V.str))) _
    generalize (upd H S (.lst (six.map V.str))) = H1 at s1 eS ⊢
    obtain ⟨ab, xs, rfl, hsb, hdb⟩ := hb.list
    have lx : xs.length = b.length := by rw [hdb.length, List.length_map]
    have hsb0 := cut_same.seq hsb
    have l6 : b.length ≤ 6 := by omega
    refine ⟨_, rfl, _, rfl, ab, xs, rfl, .inl (s1.seq hsb0), (xs.length : Nat), rfl, by omega, by omega, fun D1 hD1 => ?_⟩
    refine lc_map (K := K) walk_rangeN X ((mLines b).map dLine) (hX.same s1) hD1 (by rw [List.length_map, mLines_len l6]; omega) (by omega) (fun _ _ => trivial) ?_ fun H2 s2 ho => ?_
    · rintro i x H2 H3 d Q2 hd2 s2 sc hX2 ⟨rfl, rfl⟩ k
      have hi : i < b.length := by
        have := (List.getElem?_eq_some_iff.mp hd2).1
        rw [List.length_map, mLines_len l6] at this
        exact this
      have hi6 : i < six.length := by
        have : six.length = 6 := rfl
        omega
      have e1 : d = dLine (six[i], b[i]) := by
        rw [List.getElem?_map] at hd2
        have e : (mLines b)[i]? = some (six[i], b[i]) := by
          unfold mLines
          rw [List.getElem?_zip_eq_some]
          exact ⟨List.getElem?_eq_getElem hi6, List.getElem?_eq_getElem hi⟩
        rw [e] at hd2
        exact (Option.some.inj hd2).symm
      subst e1
      obtain ⟨y, ey, hy⟩ := hdb.get (i := i) (d := .list (b[i].map dSt)) (by rw [List.getElem?_map, List.getElem?_eq_getElem hi]; rfl)
      have hyc := (hy.same (same_cut s1)).same sc
      obtain ⟨ay, ys, rfl, hsy, hdy⟩ := hyc.list
      refine ⟨rfl, _, rfl, _, rfl, S, _, _, _, rfl, rfl, .inl (.inl (s2 _ _ eS)), atI_nat (v := V.str six[i]) (by rw [List.getElem?_map, List.getElem?_eq_getElem hi6]; rfl), ?_⟩
      refine ⟨_, rfl, _, rfl, ab, xs, _, _, rfl, rfl, (s1.trans s2).seq hsb0, atI_nat ey, ay, ys, rfl, .inl ⟨cut_same.seq hsy, fun l nl => ⟨(by show 2 ≤ sizeLine; decide), fun p np => ?_⟩⟩⟩
      have s3 := Same.new (o := .tup ys) nl
      have s4 := Same.new (o := .tup [.str six[i], .ref l]) np
      have hX3 := hX2.same s3
      refine k _ _ (s3.trans s4) (.tup (.inl (.inl (cut_upd (hX3.new np)))) (.cons (.str _) (.cons ?_ .nil)))
      exact .tup (.inl (.inl (cut_mk (s4 _ _ upd_same) (hX2.new nl)))) (hdy.same (same_cut (s3.trans s4)))
    · obtain ⟨a2, ys, e2, hsy, hdy⟩ := ho.list
      cases e2
      have s02 := s1.trans s2
      have hX2 := hX.same s02
      refine ⟨_, ys, rfl, .inl ⟨cut_same.seq hsy, fun l nl p dx np ndx ne => ?_⟩⟩
      have s3 := Same.new (o := .tup ys) nl
      have hX3 := hX2.same s3
      have hl3 : Dp K (cutH X (upd H2 l (.tup ys))) (.ref l) (dLines (mLines b)) := .tup (.inl (.inl (cut_upd (hX2.new nl)))) (hdy.same (same_cut s3))
      have hh3 := hh.same (same_cut (s02.trans s3))
      generalize (upd H2 l (.tup ys)) = H3 at s3 hX3 hl3 hh3 np ndx ⊢
      have s4 : Same H3 (upd (upd H3 dx (.own p)) p (.ins CT dx [])) := (Same.new ndx).trans (Same.new (by rw [upd_ne ne.symm]; exact np))
      refine ⟨X, p, dx, vh, .ref l, hs, mLines b, rfl, upd_same, hX3.same s4, hh3.same (same_cut s4), hl3.same (same_cut s4), okh, mLines_ok l1 l6 hw hst, fun H5 e5 kp => ⟨rfl, ?_⟩⟩
      have s5 : Same H3 H5 := Same.made np ndx kp
      exact q H5 _ (s02.trans (s3.trans s5)) ⟨p, dx, vh, .ref l, rfl, e5, hh3.same (same_cut s5), hl3.same (same_cut s5)⟩
end
end Cs
set_option Elab.async false
set_option linter.all false
set_option maxRecDepth 100000
set_option maxHeartbeats 8000000
/-! the law's aim -/
namespace Cs
open PySem PySem.Spec PyProof.Rows L2
/-- the bounds of an aim that is drawn -/
def AB (p : Int × Int) : Prop := -5 ≤ p.1 ∧ p.1 ≤ p.2 ∧ p.2 ≤ 14
section
variable {P : Program} {w : World} {K : PySem.W.Frag} {mg : Str → Option Value} {base : Heap}
abbrev sLAim : Stmt := topS 106
abbrev nLAim : List Str := ["_law_mug_here", "_law_body_here", "_law_one", "_law_two", "_law_found", "_law_k", "_law_near", "_law_far", "_law_middle"]
theorem scLAim : FnScope nLAim ["_law_mug_here", "_law_body_here"] (defScope sLAim) := ⟨rfl, rfl, rfl, by decide +kernel, rfl, by decide +kernel, by decide +kernel⟩
def spLAim (K : PySem.W.Frag) : Sp := fun vs H Q _ => ∃ (X : List Addr) (a : Addr) (vb : V) (b : Body) (tall wide : Nat), vs = [.ref a, vb] ∧ Xin X H ∧ a ∈ X ∧ MugAt H a ∧ RawL K X H vb (b.map fun r => .list (r.map dSt)) ∧ BodyD b tall wide ∧ 1 ≤ tall ∧ tall ≤ 3 ∧ wide ≤ 3 ∧ ∀ H' v aim, Draw a H H' → Dp K (cutH X H') v (dAim aim) → aim.length = wide → (∀ p ∈ aim, AB p) → Q v H'
theorem of_small {x : V} {n : Nat} {xs : List Int} {lo hi : Int} (h : ∀ z ∈ xs, lo ≤ z ∧ z ≤ hi) (e : (xs.map V.int)[n]? = some x) : ∃ z, x = .int z ∧ lo ≤ z ∧ z ≤ hi := by
  rw [List.getElem?_map] at e
  cases e2 : xs[n]? with
  | none =>
    rw [e2] at e
    cases e
  | some z =>
    rw [e2] at e
    exact ⟨z, (Option.some.inj e).symm, h z (List.mem_of_getElem? e2)⟩
theorem c_laim (D : DefAt K mg "_law_aim" sLAim ["_law_mug_here", "_law_body_here"]) (T : Bn mg) (Of : Cal P w K mg base 2 "_law_of" ["_law_mug_here", "_law_things"] (spLOf K)) : Cal P w K mg base 3 "_law_aim" ["_law_mug_here", "_law_body_here"] (spLAim K) := by
  refine D.cal fun f fd F => ?_
  refine F.ok scLAim (fun vs H Q E h => ?_) (fun cdv A outer s H vs Q E hr h => ?_)
  · obtain ⟨X, a, vb, b, tall, wide, rfl, _⟩ := h
    rfl
  · obtain ⟨X, a, vb, b, tall, wide, rfl, hX, ha, hm, hb, okb, t1, t3, w3, q⟩ := h
    refine ⟨_, pss_cons (ps_par3 (i := 2) (j := 3) (l := 4) rfl scLAim.nd rfl rfl rfl (by decide) (by decide) (by decide) rfl rfl rfl (pa_cons (pe_cal Of hr (pa_cons (pv 0) (pa_cons (pv 1) pa_nil))) (pa_cons (pe_cal Of hr (pa_cons (pv 0) (pa_cons (pv 1) pa_nil))) (pa_cons (pe_lst pa_nil) pa_nil))) (by rfl))
      (pss_cons (ps_for PassesOwn.never rfl (pi_range1 (by rfl) T.range (pa_cons (pe_callB call_len_seq (by rfl) T.len PySem.boot_len (pa_cons (pv 2) pa_nil)) pa_nil)) (pg_name (i := 5) scLAim.nd rfl (.inl rfl))
        (pss_cons (ps_par (i := 6) (j := 7) rfl scLAim.nd rfl rfl (by decide) rfl rfl (pa_cons (pe_cal Of hr (pa_cons (pv 0) (pa_cons (pe_callTy call_list_of (by rfl) T.list (by decide +kernel) (pa_cons (pe_ix (ix_lstK K) (pv 2) (pv 5) (fun _ _ => rfl)) pa_nil)) pa_nil)))
          (pa_cons (pe_cal Of hr (pa_cons (pv 0) (pa_cons (pe_callTy call_list_of (by rfl) T.list (by decide +kernel) (pa_cons (pe_ix (ix_lstK K) (pv 3) (pv 5) (fun _ _ => rfl)) pa_nil)) pa_nil))) pa_nil)) (by rfl))
        (pss_cons (ps_set (i := 8) scLAim.nd rfl (.inl rfl) (pe_op op_fdiv (pe_op op_add (pv 6) (pv 7)) pe_int))
        (pss_one (ps_expr (pe_bm PySem.F.plainAttrs_list PySem.F.slot_list_append PySem.F.type_list_append mt_append (pv 4) (pa_cons (pe_tup (pa_cons (pe_op op_sub (pv 8) (pe_cal Of hr (pa_cons (pv 0) (pa_cons (pe_lst (pa_cons pe_int (pa_cons pe_int (pa_cons pe_int (pa_cons pe_int pa_nil))))) pa_nil))))
          (pa_cons (pe_op op_add (pv 8) (pe_cal Of hr (pa_cons (pv 0) (pa_cons (pe_lst (pa_cons pe_int (pa_cons pe_int (pa_cons pe_int (pa_cons pe_int pa_nil))))) pa_nil)))) pa_nil))) pa_nil)))))))
      (pss_one (ps_ret (pe_callTy call_tuple_of (by rfl) T.tup (by decide +kernel) (pa_cons (pv 4) pa_nil))))), ?_⟩
    obtain ⟨t, xs, rfl, et, nt, hd⟩ := hb
    have nta : t ≠ a := fun z => nt (by rw [z]; exact ha)
    have lx : xs.length = tall := by rw [hd.length, List.length_map, okb.len]
    refine ⟨_, rfl, _, rfl, a, t, xs, rfl, hm, nta, .inl (.inl et), by omega, by omega, fun H1 n1 x1 d1 e1 => ?_⟩
    have et1 := d1.1 _ _ et nta
    refine ⟨_, rfl, _, rfl, a, t, xs, rfl, d1.2, nta, .inl (.inl et1), by omega, by omega, fun H2 n2 x2 d2 e2 => ⟨Nat.zero_le _, fun L hL => ⟨_, _, _, rfl, ?_⟩⟩⟩
    have d12 := d1.trans d2
    have hd2 := hd.same (d12.cut ha)
    obtain ⟨r1, er1, hr1⟩ := bRow_at hd2 e1
    obtain ⟨r2, er2, hr2⟩ := bRow_at hd2 e2
    have w1 := okb.wd r1 (List.mem_of_getElem? er1)
    have w2 := okb.wd r2 (List.mem_of_getElem? er2)
    have sb1 := okb.sb r1 (List.mem_of_getElem? er1)
    have sb2 := okb.sb r2 (List.mem_of_getElem? er2)
    obtain ⟨a1, y1, rfl, q1, g1⟩ := hr1.list
    obtain ⟨a2, y2, rfl, q2, g2⟩ := hr2.list
    have ly1 : y1.length = wide := by rw [g1.length, List.length_map, w1]
    have hX2 := d12.xin hX
    have nLX : L ∉ X := hX2.new hL
    have nLa : L ≠ a := fun z => nLX (by rw [z]; exact ha)
    have s3 : Same H2 (upd H2 L (.lst [])) := Same.new hL
    have q13 : SqL K (upd H2 L (.lst [])) a1 y1 := s3.seq (cut_same.seq q1)
    refine ⟨_, rfl, a1, y1, rfl, .inl q13, (y1.length : Nat), rfl, by omega, by omega, ?_⟩
    -- the loop: H2 is the ground
    refine for_it walk_rangeN (fun i σ H4 => ∃ f5 f6 f7 f8, σ = [some (.ref a), some (.ref t), some (.ref a1), some (.ref a2), some (.ref L), f5, f6, f7, f8] ∧ Draw a H2 H4 ∧ ∃ acc aim, H4 L = some (.lst acc) ∧ DpAll K (cutH (L :: X) H4) acc (aim.map dSt) ∧ aim.length = i ∧ ∀ p ∈ aim, AB p)
      ⟨none, none, none, none, rfl, (Draw.refl d12.2).same s3, [], [], upd_same, .nil, rfl, fun p hp => by cases hp⟩ (fun _ _ _ _ _ => trivial) ?_ ?_
    · rintro i x σ H4 H5 hi ⟨f5, f6, f7, f8, rfl, d4, acc, aim, eL, hacc, lai, hai⟩ ⟨rfl, rfl⟩
      have hi : i < wide := by
        have : i < (y1.length : Int).toNat := hi
        omega
      have hX5 : Xin (L :: X) H5 := (d4.xin hX2).cons eL
      have haL : a ∈ L :: X := List.mem_cons_of_mem _ ha
      -- the stretch of a row
      have sX : Same (cutH X H2) (cutH (L :: X) H5) := fun c o h => by
        obtain ⟨h1, h2⟩ := cut_at h
        refine cut_mk (d4.1 _ _ h1 (fun z => h2 (by rw [z]; exact ha))) fun hb => ?_
        rcases List.mem_cons.mp hb with rfl | hb
        · rw [hL] at h1
          cases h1
        · exact h2 hb
      have one : ∀ (y : List V) (r : List (Int × Int)) (ar : Addr) (H6 : Hp), r.length = wide → (∀ p ∈ r, SB p) → SqL K (cutH X H2) ar y → DpAll K (cutH X H2) y (r.map dSt) → Draw a H5 H6 → ∃ v p, y[i]? = some v ∧ SB p ∧ ∃ av, v = .ref av ∧ SqT K H6 av [.int p.1, .int p.2] ∧ SqL K H6 ar y := fun y r ar H6 lr sb hq hg d6 => by
        obtain ⟨v, ev, hv⟩ := sts_get hg (List.getElem?_eq_getElem (show i < r.length by omega))
        obtain ⟨av, rfl, hs⟩ := st_of ((hv.same sX).same (d6.cut haL))
        exact ⟨_, _, ev, sb _ (List.getElem_mem _), av, rfl, cut_same.tup hs, (sX.trans ((d6.cut haL).trans cut_same)).seq hq⟩
      have m5 := d4.2
      obtain ⟨v1, p1, ev1, sbp1, av1, rfl, hs1, hq1⟩ := one y1 r1 a1 H5 w1 sb1 q1 g1 (Draw.refl m5)
      refine ⟨_, rfl, _, rfl, _, rfl, a1, y1, _, _, rfl, rfl, hq1, atI_nat ev1, av1, _, rfl, .inr hs1, fun l1 nl1 => ?_⟩
      have nl1a : l1 ≠ a := fun z => by
        obtain ⟨_, _, _, h1, _⟩ := m5
        rw [z, h1] at nl1
        cases nl1
      have s6 : Same H5 (upd H5 l1 (.lst [.int p1.1, .int p1.2])) := Same.new nl1
      refine ⟨a, l1, _, rfl, m5.same s6, nl1a, .inl (.inl upd_same), (by show 1 ≤ 2; decide), (by show 2 ≤ 1000; decide), fun H7 k1 z1 d7 ez1 => ?_⟩
      obtain ⟨n1', rfl, b1, b2⟩ := of_small (xs := [p1.1, p1.2]) (lo := -2) (hi := 11) (fun z hz => by
        obtain ⟨o1, o2, o3⟩ := sbp1
        rcases List.mem_cons.mp hz with rfl | hz
        · omega
        · rcases List.mem_singleton.mp hz with rfl
          omega) ez1
      have d57 := Draw.after s6 d7
      obtain ⟨v2, p2, ev2, sbp2, av2, rfl, hs2, hq2⟩ := one y2 r2 a2 H7 w2 sb2 q2 g2 d57
      refine ⟨_, rfl, _, rfl, _, rfl, a2, y2, _, _, rfl, rfl, hq2, atI_nat ev2, av2, _, rfl, .inr hs2, fun l2 nl2 => ?_⟩
      have m7 := d7.2
      have nl2a : l2 ≠ a := fun z => by
        obtain ⟨_, _, _, h1, _⟩ := m7
        rw [z, h1] at nl2
        cases nl2
      have s8 : Same H7 (upd H7 l2 (.lst [.int p2.1, .int p2.2])) := Same.new nl2
      refine ⟨a, l2, _, rfl, m7.same s8, nl2a, .inl (.inl upd_same), (by show 1 ≤ 2; decide), (by show 2 ≤ 1000; decide), fun H9 k2 z2 d9 ez2 => ⟨_, _, rfl, ?_⟩⟩
      obtain ⟨n2', rfl, b3, b4⟩ := of_small (xs := [p2.1, p2.2]) (lo := -2) (hi := 11) (fun z hz => by
        obtain ⟨o1, o2, o3⟩ := sbp2
        rcases List.mem_cons.mp hz with rfl | hz
        · omega
        · rcases List.mem_singleton.mp hz with rfl
          omega) ez2
      have d59 := d57.trans (Draw.after s8 d9)
      refine ⟨_, rfl, _, rfl, _, _, rfl, rfl, _, _, rfl, rfl, ⟨by decide, by decide⟩, ?_⟩
      have hmid : -2 ≤ (n1' + n2') / 2 ∧ (n1' + n2') / 2 ≤ 11 := by omega
      have eL9 := d59.1 _ _ eL nLa
      refine ⟨_, rfl, .inl ⟨rfl, _, .inl (.inl eL9)⟩, ?_⟩
      refine ⟨_, rfl, _, rfl, (by show 4 ≤ sizeLine; decide), fun l3 nl3 => ?_⟩
      have m9 := d9.2
      have nl3a : l3 ≠ a := fun z => by
        obtain ⟨_, _, _, h1, _⟩ := m9
        rw [z, h1] at nl3
        cases nl3
      have s10 : Same H9 (upd H9 l3 (.lst [.int 0, .int 0, .int 1, .int 3])) := Same.new nl3
      have small : ∀ z ∈ ([0, 0, 1, 3] : List Int), 0 ≤ z ∧ z ≤ 3 := by decide
      refine ⟨a, l3, _, rfl, m9.same s10, nl3a, .inl (.inl upd_same), by decide, by decide, fun H11 k3 z3 d11 ez3 => ?_⟩
      obtain ⟨u1, rfl, c1, c2⟩ := of_small (xs := [0, 0, 1, 3]) small ez3
      have d511 := d59.trans (Draw.after s10 d11)
      refine ⟨_, _, rfl, rfl, _, rfl, _, rfl, (by show 4 ≤ sizeLine; decide), fun l4 nl4 => ?_⟩
      have m11 := d11.2
      have nl4a : l4 ≠ a := fun z => by
        obtain ⟨_, _, _, h1, _⟩ := m11
        rw [z, h1] at nl4
        cases nl4
      have s12 : Same H11 (upd H11 l4 (.lst [.int 0, .int 0, .int 1, .int 3])) := Same.new nl4
      refine ⟨a, l4, _, rfl, m11.same s12, nl4a, .inl (.inl upd_same), by decide, by decide, fun H13 k4 z4 d13 ez4 => ?_⟩
      obtain ⟨u2, rfl, c3, c4⟩ := of_small (xs := [0, 0, 1, 3]) small ez4
      have d513 := d511.trans (Draw.after s12 d13)
      refine ⟨_, _, rfl, rfl, (by show 2 ≤ sizeLine; decide), fun p np => ?_⟩
      have s14 := Same.new (o := .tup [.int ((n1' + n2') / 2 - u1), .int ((n1' + n2') / 2 + u2)]) np
      have d514 := d513.same s14
      have eL14 := d514.1 _ _ eL nLa
      have lacc : acc.length = i := by rw [hacc.length, List.length_map, lai]
      refine ⟨L, acc, _, rfl, rfl, eL14, small1000 (by omega), ?_⟩
      refine ⟨_, _, _, _, rfl, ⟨fun c o e n => ?_, ?_⟩, acc ++ [.ref p], aim ++ [((n1' + n2') / 2 - u1, (n1' + n2') / 2 + u2)], upd_same, ?_, by rw [List.length_append, lai]; rfl, fun p' hp' => ?_⟩
      · by_cases hcL : c = L
        · rw [hcL, hL] at e
          cases e
        · rw [upd_ne hcL]
          exact d514.1 _ _ (d4.1 _ _ e n) n
      · obtain ⟨e, s, c, h1, h2⟩ := d514.2
        exact ⟨e, s, c, by rw [upd_ne nLa.symm]; exact h1, h2⟩
      · rw [cut_in List.mem_cons_self, List.map_append]
        refine (hacc.same (d514.cut haL)).append (.cons ?_ .nil)
        exact .tup (.inl (.inl (cut_upd ((d513.xin hX5).new np)))) (.cons (.int _) (.cons (.int _) .nil))
      · rcases List.mem_append.mp hp' with hp' | hp'
        · exact hai p' hp'
        · rcases List.mem_singleton.mp hp' with rfl
          refine ⟨?_, ?_, ?_⟩
          · show -5 ≤ (n1' + n2') / 2 - u1
            omega
          · show (n1' + n2') / 2 - u1 ≤ (n1' + n2') / 2 + u2
            omega
          · show (n1' + n2') / 2 + u2 ≤ 14
            omega
    · rintro σ H4 ⟨f5, f6, f7, f8, rfl, d4, acc, aim, eL, hacc, lai, hai⟩
      have e : (y1.length : Int).toNat = wide := by omega
      rw [e] at lai
      refine ⟨_, rfl, L, acc, rfl, .inl ⟨.inl (.inl eL), fun l nl => ?_⟩⟩
      have s5 := Same.new (o := .tup acc) nl
      exact q _ _ aim ((d12.trans d4).same s5) (.tup (.inl (.inl (cut_upd ((d4.xin hX2).new nl)))) ((hacc.same cut_more).same (same_cut s5))) lai hai
end
end Cs
set_option Elab.async false
set_option linter.all false
set_option maxRecDepth 100000
set_option maxHeartbeats 8000000
/-! the law's mug is made -/
namespace Cs
open PySem PySem.Spec PyProof.Rows L2
theorem sharedI {Z : Prop} {P G : Int → Prop} (mk : (∀ n, P n → G n) → Z) (key : ∀ n, P n → G n) : Z := mk key
section
variable {P : Program} {w : World} {K : PySem.W.Frag} {mg : Str → Option Value} {base : Heap}
abbrev sLMug : Stmt := topS 94
abbrev nLMug : List Str := ["_law_cells", "_law_k", "_law_cell", "_law_stirred", "_law_each"]
theorem scLMug : FnScope nLMug ["_law_cells", "_law_k"] (defScope sLMug) := ⟨rfl, rfl, rfl, by decide +kernel, rfl, by decide +kernel, by decide +kernel⟩
def spLMug (K : PySem.W.Frag) : Sp := fun vs H Q _ => ∃ (ac : Addr) (ns : List Int) (k : Nat), vs = [.ref ac, .int k] ∧ SqL K H ac (ns.map V.int) ∧ ns.length ≤ 900 ∧ k < 2 ∧ ∀ H' a, Same H H' → H a = none → MugAt H' a → Q (.ref a) H'
theorem c_lmug (D : DefAt K mg "_law_mug" sLMug ["_law_cells", "_law_k"]) (T : Bn mg) : Cal P w K mg base 1 "_law_mug" ["_law_cells", "_law_k"] (spLMug K) := by
  refine D.cal fun f fd F => ?_
  refine F.ok scLMug (fun vs H Q E h => ?_) (fun cdv A outer s H vs Q E hr h => ?_)
  · obtain ⟨ac, ns, k, rfl, _⟩ := h
    rfl
  · obtain ⟨ac, ns, k, rfl, hs, hl, hk, q⟩ := h
    refine ⟨_, pss_cons (ps_set (i := 2) scLMug.nd rfl (.inl rfl) (pe_ifExp (pt_cmpR op_lt (pv 1) (pe_callB call_len_seq (by rfl) T.len PySem.boot_len (pa_cons (pv 0) pa_nil)) (by rfl)) (pe_callTy call_int1 (by rfl) T.int (by decide +kernel) (pa_cons (pe_ix (ix_lstK K) (pv 0) (pv 1) (fun _ _ => rfl)) pa_nil)) (pe_op op_add (pe_op op_mul pe_int (pv 1)) pe_int)))
      (pss_cons (ps_set (i := 3) scLMug.nd rfl (.inl rfl) (pe_op op_add pe_int (pe_op op_mul pe_int (pv 1))))
      (pss_cons (ps_for PassesOwn.never rfl (pi_list (pe_op op_cat (pe_slice sl_list (pv 0) po_none (po_some pe_int)) (pe_lst (pa_cons (pv 2) pa_nil)))) (pg_name (i := 4) scLMug.nd rfl (.inl rfl))
        (pss_one (ps_set (i := 3) scLMug.nd rfl (.inl rfl) (pe_op op_mod (pe_callTy call_int1 (by rfl) T.int (by decide +kernel) (pa_cons (pe_op op_add (pe_op op_mul (pv 3) pe_int) (pe_callTy call_int1 (by rfl) T.int (by decide +kernel) (pa_cons (pv 4) pa_nil))) pa_nil)) pe_int))))
      (pss_one (ps_ret (pe_lst (pa_cons (pe_ifExp (pw_or (pt_cmpR op_lt (pv 2) pe_int (nomark _)) (pw_or1 (pt_cmpR op_ge (pv 2) (pe_op op_pow pe_int pe_int) (by rfl)))).pt (pe_callB call_abs (by rfl) T.abs (by decide +kernel) (pa_cons (pv 2) pa_nil)) pe_int) (pa_cons (pv 3) (pa_cons pe_int pa_nil)))))))), ?_⟩
    apply sharedI (P := fun _ => True)
    case mk =>
      intro key
      refine ⟨_, rfl, _, rfl, ac, _, rfl, .inl hs, _, _, rfl, rfl, _, rfl, ?_⟩
      by_cases h : k < ns.length
      · rw [decide_eq_true (by rw [List.length_map]; omega)]
        refine iteT ⟨_, rfl, _, rfl, ac, _, _, _, rfl, rfl, hs, atI_nat (v := V.int ns[k]) (by rw [List.getElem?_map, List.getElem?_eq_getElem h]; rfl), .inl ⟨_, rfl, ?_⟩⟩
        generalize ns[k] = n
        exact key n trivial
      · rw [decide_eq_false (by rw [List.length_map]; omega)]
        refine iteF ⟨_, rfl, _, _, rfl, rfl, .inl ⟨by decide, by decide⟩, _, _, rfl, rfl, ?_⟩
        exact key (9257 * (k : Nat) + 113) trivial
    case key =>
      intro c _
      refine ⟨_, rfl, _, _, rfl, rfl, .inl ⟨by decide, by decide⟩, _, _, rfl, rfl, ?_⟩
      refine ⟨_, rfl, _, rfl, ac, _, rfl, hs, fun p1 np1 => ⟨_, rfl, (by show 1 ≤ sizeLine; decide), fun p2 np2 => ?_⟩⟩
      have s1 := Same.new (o := .lst (cutV (ns.map V.int) none (some 5))) np1
      have s2 := Same.new (o := .lst [.int c]) np2
      have ecut : cutV (ns.map V.int) none (some 5) = (ns.take 5).map V.int := by
        unfold cutV
        rw [HT.sIx_none, show (some (5 : Int)) = some ((5 : Nat) : Int) from rfl, HT.sIx_nat, List.drop_zero, Nat.sub_zero, List.map_take]
        by_cases h5 : 5 ≤ (ns.map V.int).length
        · rw [Nat.min_eq_left h5]
        · rw [Nat.min_eq_right (by omega), List.take_length, List.take_of_length_le (by omega)]
      have e1 := s2 _ _ (upd_same (H := H) (a := p1) (o := .lst (cutV (ns.map V.int) none (some 5))))
      refine ⟨p1, p2, _, _, rfl, rfl, e1, upd_same, ?_, fun p3 np3 => ?_⟩
      · rw [ecut, List.length_map, List.length_take]
        exact Nat.le_of_lt (small1000 (by simp; omega))
      have s3 := Same.new (o := .lst (cutV (ns.map V.int) none (some 5) ++ [.int c])) np3
      have s03 := s1.trans (s2.trans s3)
      have e3 : (upd (upd (upd H p1 (.lst (cutV (ns.map V.int) none (some 5)))) p2 (.lst [.int c])) p3 (.lst (cutV (ns.map V.int) none (some 5) ++ [.int c]))) p3 = some (.lst ((ns.take 5 ++ [c]).map V.int)) := by
        rw [upd_same, ecut, List.map_append]
        rfl
      generalize (upd (upd (upd H p1 (.lst (cutV (ns.map V.int) none (some 5)))) p2 (.lst [.int c])) p3 (.lst (cutV (ns.map V.int) none (some 5) ++ [.int c]))) = H3 at s03 e3 ⊢
      have sq : SqL K H3 p3 ((ns.take 5 ++ [c]).map V.int) := .inl (.inl e3)
      refine ⟨p3, rfl, ⟨_, sq⟩, ?_⟩
      refine for_it walk_list (fun i σ H2 => H2 = H3 ∧ ∃ (st : Int) (f4 : Option V), σ = [some (.ref ac), some (.int k), some (.int c), some (.int st), f4] ∧ 0 ≤ st ∧ st < 2147482819) ⟨rfl, _, none, rfl, by omega, by omega⟩ (fun i σ H2 _ h => by rw [h.1]; exact sq) ?_ ?_
      · rintro i x σ H4 H5 hi ⟨rfl, st, f4, rfl, h0, h1⟩ ⟨rfl, ex⟩
        rw [List.getElem?_map] at ex
        cases ez : (ns.take 5 ++ [c])[i]? with
        | none =>
          rw [ez] at ex
          cases ex
        | some z =>
          rw [ez] at ex
          cases ex
          refine ⟨_, rfl, _, _, rfl, rfl, .inl ⟨by omega, by omega⟩, _, rfl, .inl ⟨_, rfl, _, _, rfl, rfl, .inl ⟨_, rfl, _, _, rfl, rfl, (by show (0 : Int) < 2147482819; decide), ?_⟩⟩⟩
          exact ⟨rfl, _, _, rfl, Int.emod_nonneg _ (by decide), Int.emod_lt_of_pos _ (by decide)⟩
      · rintro σ H4 ⟨rfl, st, f4, rfl, h0, h1⟩
        apply sharedI (P := fun n => 0 ≤ n)
        case mk =>
          intro key
          refine ⟨_, rfl, _, _, rfl, rfl, _, rfl, ?_⟩
          by_cases hc : c < 0
          · rw [decide_eq_true hc]
            refine iteT (iteT ⟨_, rfl, c, rfl, ?_⟩)
            obtain ⟨n, hn, hn0⟩ : ∃ n, (if c < 0 then -c else c) = n ∧ 0 ≤ n := ⟨_, rfl, by split <;> omega⟩
            rw [hn]
            exact key n hn0
          · rw [decide_eq_false hc]
            refine iteF ⟨_, rfl, _, _, rfl, rfl, ⟨by decide, by decide, by decide⟩, _, _, rfl, rfl, _, rfl, ite2 (fun _ => ⟨_, rfl, c, rfl, ?_⟩) (fun _ => ?_)⟩
            · obtain ⟨n, hn, hn0⟩ : ∃ n, (if c < 0 then -c else c) = n ∧ 0 ≤ n := ⟨_, rfl, by split <;> omega⟩
              rw [hn]
              exact key n hn0
            · exact key 0 (by decide)
        case key =>
          intro n hn
          refine ⟨_, rfl, (by show 3 ≤ sizeLine; decide), fun a na => ?_⟩
          have nHa : H a = none := by
            cases e : H a with
            | none => rfl
            | some o =>
              rw [s03 _ _ e] at na
              cases na
          exact q _ a (s03.trans (Same.new na)) nHa ⟨n, st, 0, upd_same, hn, h0, h1⟩
end
end Cs
set_option Elab.async false
set_option linter.all false
set_option maxRecDepth 100000
set_option maxHeartbeats 8000000
/-! what is right about the answers to one question -/
namespace Cs
open PySem PySem.Spec PyProof.Rows L2
/-- an answer agrees with the costs of the spots -/
def Agree (o : Option (List Rat × Rat)) (costs : List Rat) : Prop := match o with
  | none => costs = []
  | some (_, q) => q ∈ costs ∧ ∀ r ∈ costs, q ≤ r
def costsOf (b : Body) (fees : List Int) (ws : List Want) : List Rat := mCosts b.length fees (mCuts b.length ws)
/-- a mix that is taken -/
structure MixOk (n : Nat) (x : List Rat) : Prop where
  len : x.length = n
  nn : ∀ q ∈ x, 0 ≤ q
  one : mTotal x = 1
def fixB (b : Body) : Body := b.map fun r => r.map fun p => (p.1, p.1)
abbrev zeros (n : Nat) : List Int := List.replicate n 0
/-- what is right about the program's answers to one question -/
structure Right (b : Body) (aim : Aim) (fees : List Int) : Prop where
  best : ∀ o, CheapOut b.length (mBoth (mLines b) aim aim.length 0) fees o → Agree o (costsOf b fees (mSome b aim))
  sure : ∀ o, CheapOut b.length (mBoth (mLines b) aim aim.length 1) fees o → Agree o (costsOf b fees (mSure b aim))
  mix : ∀ near o o', near < 2 → CheapOut b.length (mBoth (mLines b) aim aim.length near) fees o → CheapOut b.length (mBoth (mLines b) aim aim.length near) (zeros b.length) o' →
    (o' = none ↔ o = none) ∧ ∀ x q', o' = some (x, q') → MixOk b.length x ∧ ∀ x0 q, o = some (x0, q) → q ≤ mWeighed x fees
  upper : ∀ x q, CheapOut b.length (mBoth (mLines b) aim aim.length 1) fees (some (x, q)) → ¬ NoCorner (mLines b) aim aim.length fees ∧ ∀ q', TopCorner (mLines b) aim aim.length fees q' → q' ≤ q
  lower : ∀ o q', CheapOut b.length (mBoth (mLines b) aim aim.length 0) fees o → TopCorner (mLines b) aim aim.length fees q' → ∃ x q, o = some (x, q) ∧ q ≤ q'
  fbest : ∀ o, CheapOut b.length (mBoth (mLines (fixB b)) aim aim.length 0) fees o → Agree o (costsOf b fees (mSure (fixB b) aim))
  fsure : ∀ o, CheapOut b.length (mBoth (mLines (fixB b)) aim aim.length 1) fees o → Agree o (costsOf b fees (mSure (fixB b) aim))
  fnone : NoCorner (mLines (fixB b)) aim aim.length fees → costsOf b fees (mSure (fixB b) aim) = []
  ftop : ∀ q, TopCorner (mLines (fixB b)) aim aim.length fees q → q ∈ costsOf b fees (mSure (fixB b) aim) ∧ ∀ r ∈ costsOf b fees (mSure (fixB b) aim), q ≤ r
end Cs
set_option Elab.async false
set_option linter.all false
set_option maxRecDepth 100000
set_option maxHeartbeats 8000000
/-! the law's mathematics: what the spots tell is what the program tells -/
namespace Cs
open PySem PySem.Spec PyProof.Rows L2
/-! ### the program's side -/
/-- what keeps some rows -/
structure FeasR (n : Nat) (rows : List (List Rat × Rat)) (y : Nat → Rat) : Prop where
  nn : ∀ k, k < n → 0 ≤ y k
  one : Cm.sumTo n y = 1
  row : ∀ r ∈ rows, (Cm.sumTo n fun k => vec r.1 k * y k) ≤ r.2
def cost (n : Nat) (fees : List Int) (y : Nat → Rat) : Rat := Cm.sumTo n fun k => vec (rats fees) k * y k
theorem ent_left {A B : List (List Rat)} {i k : Nat} (h : i < A.length) : ent (A ++ B) i k = ent A i k := by
  have e : (A ++ B).getD i [] = A.getD i [] := by rw [List.getD_eq_getElem?_getD, List.getD_eq_getElem?_getD, List.getElem?_append_left h]
  unfold ent
  rw [e]
theorem ent_right {A B : List (List Rat)} {i k : Nat} : ent (A ++ B) (A.length + i) k = ent B i k := by
  have e : (A ++ B).getD (A.length + i) [] = B.getD i [] := by rw [List.getD_eq_getElem?_getD, List.getD_eq_getElem?_getD, List.getElem?_append_right (by omega), Nat.add_sub_cancel_left]
  unfold ent
  rw [e]
theorem a_row {n : Nat} {rows : List (List Rat × Rat)} {i : Nat} {r : List Rat × Rat} (h : rows[i]? = some r) (k : Nat) : ent (aRows n rows) i k = vec r.1 k ∧ vec (aBnds rows) i = r.2 := by
  have hi : i < rows.length := by
    rcases List.getElem?_eq_some_iff.mp h with ⟨hi, _⟩
    exact hi
  constructor
  · unfold aRows
    rw [ent_left (by rw [List.length_map]; exact hi), ent_at (r := r.1) (by rw [List.getElem?_map, h]; rfl)]
  · unfold aBnds
    rw [vec_left (by rw [List.length_map]; exact hi), vec_at (q := r.2) (by rw [List.getElem?_map, h]; rfl)]
theorem a_one {n : Nat} {rows : List (List Rat × Rat)} {k : Nat} (hk : k < n) : ent (aRows n rows) rows.length k = 1 ∧ vec (aBnds rows) rows.length = 1 ∧ ent (aRows n rows) (rows.length + 1) k = -1 ∧ vec (aBnds rows) (rows.length + 1) = -1 := by
  have h0 : rows.length = (rows.map Prod.fst).length + 0 := by rw [List.length_map]; rfl
  have h1 : rows.length + 1 = (rows.map Prod.fst).length + 1 := by rw [List.length_map]
  have g0 : rows.length = (rows.map Prod.snd).length + 0 := by rw [List.length_map]; rfl
  have g1 : rows.length + 1 = (rows.map Prod.snd).length + 1 := by rw [List.length_map]
  unfold aRows aBnds
  refine ⟨?_, ?_, ?_, ?_⟩
  · conv => lhs; arg 2; rw [h0]
    rw [ent_right, ent_at (r := List.replicate n 1) rfl, vec_rep, if_pos hk]
  · conv => lhs; arg 2; rw [g0]
    rw [vec_right]
    rfl
  · rw [h1, ent_right, ent_at (r := List.replicate n (-1)) rfl, vec_rep, if_pos hk]
  · rw [g1, vec_right]
    rfl
/-- the rows of a question, all -/
theorem feas_iff {n : Nat} {rows : List (List Rat × Rat)} {y : Nat → Rat} (hn : 0 < n) : FeasR n rows y ↔ (∀ k, k < n → 0 ≤ y k) ∧ ∀ i, i < rows.length + 2 → (Cm.sumTo n fun k => ent (aRows n rows) i k * y k) ≤ vec (aBnds rows) i := by
  have s1 : (Cm.sumTo n fun k => ent (aRows n rows) rows.length k * y k) = Cm.sumTo n y := Cm.sum_congr fun k hk => by
    rw [(a_one hk).1]
    grind
  have s2 : (Cm.sumTo n fun k => ent (aRows n rows) (rows.length + 1) k * y k) = -(Cm.sumTo n y) := by
    have e : (Cm.sumTo n fun k => ent (aRows n rows) (rows.length + 1) k * y k) = Cm.sumTo n fun k => -1 * y k := Cm.sum_congr fun k hk => by rw [(a_one hk).2.2.1]
    rw [e, Cm.sum_mul]
    grind
  obtain ⟨_, b1, _, b2⟩ := a_one (rows := rows) hn
  constructor
  · intro h
    refine ⟨h.nn, fun i hi => ?_⟩
    by_cases h1 : i < rows.length
    · have e : rows[i]? = some rows[i] := List.getElem?_eq_getElem h1
      rw [(a_row (n := n) e 0).2, Cm.sum_congr (g := fun k => vec rows[i].1 k * y k) fun k _ => by rw [(a_row e k).1]]
      exact h.row _ (List.getElem_mem h1)
    · by_cases h2 : i = rows.length
      · rw [h2, s1, b1, h.one]
        exact Rat.le_refl
      · obtain rfl : i = rows.length + 1 := by omega
        rw [s2, b2, h.one]
        exact Rat.le_refl
  · intro ⟨h1, h2⟩
    have u1 := h2 rows.length (by omega)
    have u2 := h2 (rows.length + 1) (by omega)
    rw [s1, b1] at u1
    rw [s2, b2] at u2
    refine ⟨h1, by grind, fun r hr => ?_⟩
    obtain ⟨i, hi, e⟩ := List.mem_iff_getElem.mp hr
    have e' : rows[i]? = some r := by rw [List.getElem?_eq_getElem hi, e]
    have h3 := h2 i (by omega)
    rw [(a_row (n := n) e' 0).2, Cm.sum_congr (g := fun k => vec r.1 k * y k) fun k _ => by rw [(a_row e' k).1]] at h3
    exact h3
theorem weak {m n : Nat} {A : Nat → Nat → Rat} {b l y : Nat → Rat} (hl : ∀ i, i < m → 0 ≤ l i) (h : ∀ i, i < m → (Cm.sumTo n fun k => A i k * y k) ≤ b i) : (Cm.sumTo n fun k => (Cm.sumTo m fun i => l i * A i k) * y k) ≤ Cm.sumTo m fun i => l i * b i := by
  have e1 : (Cm.sumTo n fun k => (Cm.sumTo m fun i => l i * A i k) * y k) = Cm.sumTo n fun k => Cm.sumTo m fun i => l i * (A i k * y k) := Cm.sum_congr fun k _ => by
    rw [← Cm.sum_mulr]
    exact Cm.sum_congr fun i _ => by grind
  have e2 : (Cm.sumTo n fun k => Cm.sumTo m fun i => l i * (A i k * y k)) = Cm.sumTo m fun i => l i * Cm.sumTo n fun k => A i k * y k := by
    rw [Cm.sum_swap n m fun k i => l i * (A i k * y k)]
    exact Cm.sum_congr fun i _ => Cm.sum_mul _ _ _
  rw [e1, e2]
  refine Cm.sum_le fun i hi => ?_
  have := Rat.mul_nonneg (hl i hi) (show 0 ≤ b i - Cm.sumTo n fun k => A i k * y k by have := h i hi; grind)
  grind
theorem opt_none {n : Nat} {rows : List (List Rat × Rat)} {fees : List Int} (hn : 0 < n) (h : CheapOut n rows fees none) (y : Nat → Rat) : ¬ FeasR n rows y := fun hy => by
  obtain ⟨l, h1, h2, h3⟩ := h
  obtain ⟨y1, y2⟩ := (feas_iff hn).mp hy
  have w := weak h1 y2
  have p : 0 ≤ Cm.sumTo n fun k => (Cm.sumTo (rows.length + 2) fun i => l i * ent (aRows n rows) i k) * y k := Cm.sum_nonneg fun k hk => Rat.mul_nonneg (h2 k hk) (y1 k hk)
  grind
theorem opt_some {n : Nat} {rows : List (List Rat × Rat)} {fees : List Int} {x : List Rat} {q : Rat} (hn : 0 < n) (h : CheapOut n rows fees (some (x, q))) :
    x.length = n ∧ FeasR n rows (vec x) ∧ q = cost n fees (vec x) ∧ ∀ y, FeasR n rows y → q ≤ cost n fees y := by
  obtain ⟨⟨e1, e2, e3, e4, l, h1, h2, h3⟩, _⟩ := h
  refine ⟨e1, (feas_iff hn).mpr ⟨e2, e3⟩, e4, fun y hy => ?_⟩
  obtain ⟨y1, y2⟩ := (feas_iff hn).mp hy
  have w := weak h1 y2
  have p : 0 ≤ Cm.sumTo n fun k => (vec (rats fees) k + Cm.sumTo (rows.length + 2) fun i => l i * ent (aRows n rows) i k) * y k := Cm.sum_nonneg fun k hk => Rat.mul_nonneg (h2 k hk) (y1 k hk)
  have e : (Cm.sumTo n fun k => (vec (rats fees) k + Cm.sumTo (rows.length + 2) fun i => l i * ent (aRows n rows) i k) * y k) = cost n fees y + Cm.sumTo n fun k => (Cm.sumTo (rows.length + 2) fun i => l i * ent (aRows n rows) i k) * y k := by
    unfold cost
    rw [← Cm.sum_add]
    exact Cm.sum_congr fun k _ => by grind
  rw [e] at p
  grind
/-! ### the spots' side -/
structure WFeas (n : Nat) (ws : List Want) (y : Nat → Rat) : Prop where
  nn : ∀ k, k < n → 0 ≤ y k
  one : Cm.sumTo n y = 1
  row : ∀ w ∈ ws, (Cm.sumTo n fun k => vec (rats w.1) k * y k) ≤ (w.2 : Rat)
/-- the shares of a point -/
def shr (a b : Rat) : Nat → Rat := fun k => if k = 0 then a else if k = 1 then b else 1 - a - b
theorem sum1 (f : Nat → Rat) : Cm.sumTo 1 f = f 0 := by
  simp only [Cm.sumTo]
  grind
theorem sum2 (f : Nat → Rat) : Cm.sumTo 2 f = f 0 + f 1 := by
  simp only [Cm.sumTo]
  grind
theorem sum3 (f : Nat → Rat) : Cm.sumTo 3 f = f 0 + f 1 + f 2 := by
  simp only [Cm.sumTo]
  grind
theorem in_app {a b : Rat} {cs ds : List Cm.C3} : Cm.In (cs ++ ds) a b ↔ Cm.In cs a b ∧ Cm.In ds a b := by
  unfold Cm.In
  constructor
  · exact fun h => ⟨fun c hc => h c (List.mem_append_left _ hc), fun c hc => h c (List.mem_append_right _ hc)⟩
  · rintro ⟨h1, h2⟩ c hc
    rcases List.mem_append.mp hc with hc | hc
    · exact h1 c hc
    · exact h2 c hc
theorem in_cut3 {a b : Rat} : Cm.In cut3 a b ↔ 0 ≤ a ∧ 0 ≤ b ∧ a + b ≤ 1 := by
  unfold Cm.In cut3
  simp only [List.mem_cons, List.not_mem_nil, or_false, forall_eq_or_imp, forall_eq, Cm.lv]
  grind
theorem in_map {a b : Rat} {tall : Nat} {ws : List Want} : Cm.In (ws.map (wCut tall)) a b ↔ ∀ w ∈ ws, Cm.lv (wCut tall w) a b ≤ ((wCut tall w).2.2 : Rat) := by
  unfold Cm.In
  constructor
  · exact fun h w hw => h _ (List.mem_map.mpr ⟨w, hw, rfl⟩)
  · rintro h c hc
    obtain ⟨w, hw, rfl⟩ := List.mem_map.mp hc
    exact h w hw
theorem v_cons (n : Int) (ns : List Int) (k : Nat) : vec (rats (n :: ns)) (k + 1) = vec (rats ns) k := vec_succ _ _ _
theorem v_head (n : Int) (ns : List Int) : vec (rats (n :: ns)) 0 = (n : Rat) := rfl
/-- the lines are kept by just the shares that keep the wants -/
theorem cuts_iff {n : Nat} {ws : List Want} (ok : WantsOk n ws) (a b : Rat) : Cm.In (mCuts n ws) a b ↔ WFeas n ws (shr a b) ∧ 0 ≤ a ∧ 0 ≤ b ∧ a + b ≤ 1 ∧ (n < 3 → a + b = 1) ∧ (n < 2 → b = 0) := by
  have hn := ok.t1
  have hn3 := ok.t3
  unfold mCuts
  rw [in_app, in_app, in_app, in_cut3, in_map]
  have cT : Cm.In (cutT n) a b ↔ (n < 3 → 1 ≤ a + b) := by
    unfold cutT Cm.In
    split <;> rename_i h
    · simp only [List.mem_cons, List.not_mem_nil, or_false, forall_eq, Cm.lv]
      grind
    · simp only [List.not_mem_nil]
      grind
  have cU : Cm.In (cutU n) a b ↔ (n < 2 → b ≤ 0) := by
    unfold cutU Cm.In
    split <;> rename_i h
    · simp only [List.mem_cons, List.not_mem_nil, or_false, forall_eq, Cm.lv]
      grind
    · simp only [List.not_mem_nil]
      grind
  rw [cT, cU]
  have key : (n < 3 → a + b = 1) → (n < 2 → b = 0) → ((∀ w ∈ ws, Cm.lv (wCut n w) a b ≤ ((wCut n w).2.2 : Rat)) ↔ ∀ w ∈ ws, (Cm.sumTo n fun k => vec (rats w.1) k * shr a b k) ≤ (w.2 : Rat)) := fun h3 h2 => by
    have one : ∀ w ∈ ws, Cm.lv (wCut n w) a b ≤ ((wCut n w).2.2 : Rat) ↔ (Cm.sumTo n fun k => vec (rats w.1) k * shr a b k) ≤ (w.2 : Rat) := fun w hw => by
      have hl := ok.len w hw
      obtain ⟨ns, bd⟩ := w
      simp only at hl
      have hcase : n = 1 ∨ n = 2 ∨ n = 3 := by omega
      rcases hcase with rfl | rfl | rfl
      · match ns, hl with
        | [n0], _ =>
          have hb := h2 (by omega)
          have ha := h3 (by omega)
          rw [sum1]
          simp only [wCut, wThree, Cm.lv, v_head, shr]
          simp
          subst hb
          grind
      · match ns, hl with
        | [n0, n1], _ =>
          have ha := h3 (by omega)
          rw [sum2]
          simp only [wCut, wThree, Cm.lv, v_head, v_cons, shr]
          simp
          try grind
      · match ns, hl with
        | [n0, n1, n2], _ =>
          rw [sum3]
          simp only [wCut, wThree, Cm.lv, v_head, v_cons, shr]
          simp
          grind
    exact ⟨fun h w hw => (one w hw).mp (h w hw), fun h w hw => (one w hw).mpr (h w hw)⟩
  have nn : (∀ k, k < n → 0 ≤ shr a b k) ∧ Cm.sumTo n (shr a b) = 1 ↔ (0 ≤ a ∧ (2 ≤ n → 0 ≤ b) ∧ (n = 3 → a + b ≤ 1)) ∧ (n = 1 → a = 1) ∧ (n = 2 → a + b = 1) := by
    have hcase : n = 1 ∨ n = 2 ∨ n = 3 := by omega
    rcases hcase with rfl | rfl | rfl
    · rw [sum1]
      constructor
      · rintro ⟨h1, h2⟩
        have := h1 0 (by omega)
        simp only [shr] at this h2
        grind
      · rintro ⟨h1, h2, _⟩
        refine ⟨fun k hk => ?_, ?_⟩
        · obtain rfl : k = 0 := by omega
          exact h1.1
        · exact h2 rfl
    · rw [sum2]
      constructor
      · rintro ⟨h1, h2⟩
        have := h1 0 (by omega)
        have := h1 1 (by omega)
        simp only [shr] at *
        grind
      · rintro ⟨h1, _, h2⟩
        refine ⟨fun k hk => ?_, ?_⟩
        · rcases (by omega : k = 0 ∨ k = 1) with rfl | rfl
          · exact h1.1
          · exact h1.2.1 (by omega)
        · exact h2 rfl
    · rw [sum3]
      constructor
      · rintro ⟨h1, h2⟩
        have := h1 0 (by omega)
        have := h1 1 (by omega)
        have := h1 2 (by omega)
        simp only [shr] at *
        grind
      · rintro ⟨h1, _, h2⟩
        refine ⟨fun k hk => ?_, ?_⟩
        · rcases (by omega : k = 0 ∨ k = 1 ∨ k = 2) with rfl | rfl | rfl
          · exact h1.1
          · exact h1.2.1 (by omega)
          · have := h1.2.2 rfl
            simp only [shr]
            grind
        · simp only [shr]
          grind
  constructor
  · rintro ⟨⟨⟨⟨a0, b0, ab⟩, hT⟩, hU⟩, hw⟩
    have e3 : n < 3 → a + b = 1 := fun h => by
      have := hT h
      grind
    have e2 : n < 2 → b = 0 := fun h => by
      have := hU h
      grind
    obtain ⟨p1, p2⟩ := nn.mpr ⟨⟨a0, fun _ => b0, fun _ => ab⟩, fun h => by have := e3 (by omega); have := e2 (by omega); grind, fun h => e3 (by omega)⟩
    exact ⟨⟨p1, p2, (key e3 e2).mp hw⟩, a0, b0, ab, e3, e2⟩
  · rintro ⟨hw, a0, b0, ab, e3, e2⟩
    refine ⟨⟨⟨⟨a0, b0, ab⟩, fun h => ?_⟩, fun h => ?_⟩, (key e3 e2).mpr hw.row⟩
    · rw [e3 h]
      exact Rat.le_refl
    · rw [e2 h]
      exact Rat.le_refl
end Cs
set_option Elab.async false
set_option linter.all false
set_option maxRecDepth 100000
set_option maxHeartbeats 8000000
/-! the spots are the corners -/
namespace Cs
open PySem PySem.Spec PyProof.Rows L2
theorem abs_u (u : Int) : sOf u * u = (u.natAbs : Int) := by
  unfold sOf
  split <;> omega
theorem natR (u : Nat) : ((u : Int) : Rat) = (u : Rat) := by norm_cast
/-- where two lines meet -/
theorem meet {c1 c2 : Cut} {x y : Rat} (h1 : Cm.lv c1 x y = (c1.2.2 : Rat)) (h2 : Cm.lv c2 x y = (c2.2.2 : Rat)) : (lOf c1 c2 : Rat) = x * ((uOf c1 c2).natAbs : Nat) ∧ (rOf c1 c2 : Rat) = y * ((uOf c1 c2).natAbs : Nat) := by
  have e : (((uOf c1 c2).natAbs : Nat) : Rat) = (sOf (uOf c1 c2) : Rat) * (uOf c1 c2 : Rat) := by
    rw [← natR, ← abs_u]
    simp
  rw [e]
  have eu : (uOf c1 c2 : Rat) = (c1.1 : Rat) * c2.2.1 - (c2.1 : Rat) * c1.2.1 := by
    unfold uOf
    simp
  unfold Cm.lv at h1 h2
  unfold lOf rOf
  generalize sOf (uOf c1 c2) = s
  rw [eu]
  constructor
  · have : ((s * (c1.2.2 * c2.2.1 - c2.2.2 * c1.2.1) : Int) : Rat) = (s : Rat) * ((c1.2.2 : Rat) * c2.2.1 - (c2.2.2 : Rat) * c1.2.1) := by simp
    rw [this, ← h1, ← h2]
    grind
  · have : ((s * (c1.1 * c2.2.2 - c2.1 * c1.2.2) : Int) : Rat) = (s : Rat) * ((c1.1 : Rat) * c2.2.2 - (c2.1 : Rat) * c1.2.2) := by simp
    rw [this, ← h1, ← h2]
    grind
theorem holds_iff {l r : Int} {u : Nat} {c : Cut} {x y : Rat} (hu : 0 < u) (el : (l : Rat) = x * (u : Nat)) (er : (r : Rat) = y * (u : Nat)) : holdsAt l r u c = true ↔ Cm.lv c x y ≤ (c.2.2 : Rat) := by
  have pu : (0 : Rat) < (u : Rat) := by exact_mod_cast hu
  have e : holdsAt l r u c = true ↔ ((c.1 * l + c.2.1 * r : Int) : Rat) ≤ ((c.2.2 * (u : Int) : Int) : Rat) := by
    unfold holdsAt
    rw [decide_eq_true_iff]
    exact Rat.intCast_le_intCast.symm
  have e1 : ((c.1 * l + c.2.1 * r : Int) : Rat) = Cm.lv c x y * (u : Rat) := by
    have : ((c.1 * l + c.2.1 * r : Int) : Rat) = (c.1 : Rat) * (l : Rat) + (c.2.1 : Rat) * (r : Rat) := by simp
    rw [this, el, er]
    unfold Cm.lv
    grind
  have e2 : ((c.2.2 * (u : Int) : Int) : Rat) = (c.2.2 : Rat) * (u : Rat) := by
    rw [← natR]
    simp
  rw [e, e1, e2]
  constructor
  · intro h
    apply Decidable.byContradiction
    intro hn
    have := Rat.mul_pos (show 0 < Cm.lv c x y - (c.2.2 : Rat) by grind) pu
    grind
  · intro h
    have := Rat.mul_nonneg (show 0 ≤ (c.2.2 : Rat) - Cm.lv c x y by grind) (Rat.le_of_lt pu)
    grind
theorem all_holds {cuts : List Cut} {l r : Int} {u : Nat} : (cuts.map (holdsAt l r u)).all id = true ↔ ∀ c ∈ cuts, holdsAt l r u c = true := by
  simp [List.all_map]
theorem mk_at {l : Int} {u : Nat} {x : Rat} (hu : 0 < u) (el : (l : Rat) = x * (u : Nat)) : mkRat l u = x := by
  have pu : (u : Rat) ≠ 0 := by
    intro z
    have : (0 : Rat) < (u : Rat) := by exact_mod_cast hu
    grind
  rw [Rat.mkRat_eq_div, el, Rat.div_def, Rat.mul_assoc, Rat.mul_inv_cancel _ pu, Rat.mul_one]
theorem at_mk {l : Int} {u : Nat} (hu : 0 < u) : (l : Rat) = mkRat l u * (u : Nat) := by
  have pu : (u : Rat) ≠ 0 := by
    intro z
    have : (0 : Rat) < (u : Rat) := by exact_mod_cast hu
    grind
  rw [Rat.mkRat_eq_div, Rat.div_def, Rat.mul_assoc, Rat.inv_mul_cancel _ pu, Rat.mul_one]
/-- the point of a spot -/
def spX (s : Spot) : Rat := mkRat s.1 s.2.2
def spY (s : Spot) : Rat := mkRat s.2.1 s.2.2
theorem spot_shr {s : Spot} (hu : 0 < s.2.2) {n k : Nat} (hk : k < n) (hn : n ≤ 3) : vec (spotP n s) k = shr (spX s) (spY s) k := by
  have e3 : mkRat ((s.2.2 : Int) - s.1 - s.2.1) s.2.2 = 1 - spX s - spY s := by
    refine mk_at hu ?_
    have a := at_mk (l := s.1) hu
    have b := at_mk (l := s.2.1) hu
    have : (((s.2.2 : Int) - s.1 - s.2.1 : Int) : Rat) = (s.2.2 : Rat) - (s.1 : Rat) - (s.2.1 : Rat) := by
      rw [← natR]
      simp
    rw [this, a, b]
    unfold spX spY
    grind
  unfold spotP
  have ek : vec (List.take n [mkRat s.1 s.2.2, mkRat s.2.1 s.2.2, mkRat ((s.2.2 : Int) - s.1 - s.2.1) s.2.2]) k = vec [mkRat s.1 s.2.2, mkRat s.2.1 s.2.2, mkRat ((s.2.2 : Int) - s.1 - s.2.1) s.2.2] k := by
    unfold vec
    rw [List.getD_eq_getElem?_getD, List.getD_eq_getElem?_getD, List.getElem?_take, if_pos hk]
  rw [ek, e3]
  rcases (by omega : k = 0 ∨ k = 1 ∨ k = 2) with rfl | rfl | rfl <;> rfl
/-- a spot keeps all lines -/
theorem spot_in {cuts : List Cut} {s : Spot} (h : s ∈ mSpots cuts) : 0 < s.2.2 ∧ Cm.In cuts (spX s) (spY s) := by
  obtain ⟨j, k, hj, hk, e⟩ := mem_spots h
  obtain ⟨h1, h2, rfl⟩ := spotI_some e
  have hu : 0 < (uOf (cuts.getD j zc) (cuts.getD k zc)).natAbs := by omega
  refine ⟨hu, fun c hc => ?_⟩
  exact (holds_iff hu (at_mk hu) (at_mk hu)).mp (all_holds.mp h2 c hc)
/-- two lines that meet within all lines are a spot -/
theorem spot_of {cuts : List Cut} {j k : Nat} (hj : j < k) (hk : k < cuts.length) {x y : Rat} (hin : Cm.In cuts x y) (hu : uOf (cuts.getD j zc) (cuts.getD k zc) ≠ 0)
    (h1 : Cm.lv (cuts.getD j zc) x y = ((cuts.getD j zc).2.2 : Rat)) (h2 : Cm.lv (cuts.getD k zc) x y = ((cuts.getD k zc).2.2 : Rat)) : ∃ s ∈ mSpots cuts, spX s = x ∧ spY s = y := by
  obtain ⟨el, er⟩ := meet h1 h2
  have pu : 0 < (uOf (cuts.getD j zc) (cuts.getD k zc)).natAbs := by omega
  have e : spotI cuts (cuts.getD j zc) (cuts.getD k zc) = some (lOf (cuts.getD j zc) (cuts.getD k zc), rOf (cuts.getD j zc) (cuts.getD k zc), (uOf (cuts.getD j zc) (cuts.getD k zc)).natAbs) := by
    unfold spotI
    rw [if_pos ⟨hu, all_holds.mpr fun c hc => (holds_iff pu el er).mpr (hin c hc)⟩]
  exact ⟨_, spots_mem hj hk e, mk_at pu el, mk_at pu er⟩
theorem getD_at {cuts : List Cut} {c : Cut} (h : c ∈ cuts) : ∃ j, j < cuts.length ∧ cuts.getD j zc = c := by
  obtain ⟨j, hj, e⟩ := List.mem_iff_getElem.mp h
  exact ⟨j, hj, by rw [List.getD_eq_getElem?_getD, List.getElem?_eq_getElem hj, e]; rfl⟩
theorem spots_all {cuts : List Cut} (T : Cm.Tri cuts) {a b : Rat} (h : Cm.In cuts a b) (p q : Rat) : ∃ s ∈ mSpots cuts, p * spX s + q * spY s ≤ p * a + q * b := by
  obtain ⟨x, y, hin, le, c1, m1, c2, m2, t1, t2, hu⟩ := Cm.corner T h p q
  obtain ⟨j, hj, rfl⟩ := getD_at m1
  obtain ⟨k, hk, rfl⟩ := getD_at m2
  have hu1 : uOf (cuts.getD j zc) (cuts.getD k zc) ≠ 0 := hu
  have hu2 : uOf (cuts.getD k zc) (cuts.getD j zc) ≠ 0 := fun z => hu1 (by unfold uOf at *; omega)
  have ne : j ≠ k := fun z => by
    subst z
    apply hu1
    unfold uOf
    omega
  by_cases hjk : j < k
  · obtain ⟨s, hs, rfl, rfl⟩ := spot_of hjk hk hin hu1 t1 t2
    exact ⟨s, hs, le⟩
  · obtain ⟨s, hs, rfl, rfl⟩ := spot_of (show k < j by omega) hj hin hu2 t2 t1
    exact ⟨s, hs, le⟩
/-! ### costs -/
theorem fold_sum : ∀ (ps : List Rat) (z : Rat), ps.foldl (· + ·) z = z + Cm.sumTo ps.length fun k => vec ps k
  | [], z => by
    show z = _
    simp only [List.length_nil, Cm.sumTo]
    grind
  | p :: ps, z => by
    show ps.foldl (· + ·) (z + p) = _
    rw [fold_sum ps]
    have e : ∀ n, (Cm.sumTo (n + 1) fun k => vec (p :: ps) k) = p + Cm.sumTo n fun k => vec ps k := fun n => by
      induction n with
      | zero =>
        simp only [Cm.sumTo, vec_zero]
        grind
      | succ n ih =>
        show (Cm.sumTo (n + 1) fun k => vec (p :: ps) k) + vec (p :: ps) (n + 1) = _
        rw [ih, vec_succ]
        simp only [Cm.sumTo]
        grind
    show _ = z + Cm.sumTo (ps.length + 1) _
    rw [e]
    grind
theorem total_sum (ps : List Rat) : mTotal ps = Cm.sumTo ps.length fun k => vec ps k := by
  unfold mTotal
  rw [fold_sum]
  grind
theorem vec_zip {ps : List Rat} {ns : List Int} {k : Nat} (h1 : k < ps.length) (h2 : k < ns.length) : vec (List.zipWith (fun p (n : Int) => p * n) ps ns) k = vec (rats ns) k * vec ps k := by
  unfold vec rats
  rw [List.getD_eq_getElem?_getD, List.getD_eq_getElem?_getD, List.getD_eq_getElem?_getD, List.getElem?_zipWith, List.getElem?_eq_getElem h1, List.getElem?_eq_getElem h2, List.getElem?_map, List.getElem?_eq_getElem h2]
  show ps[k] * (ns[k] : Rat) = (ns[k] : Rat) * ps[k]
  grind
theorem weighed_sum {ps : List Rat} {ns : List Int} {n : Nat} (h1 : ps.length = n) (h2 : ns.length = n) : mWeighed ps ns = cost n ns (vec ps) := by
  unfold mWeighed cost
  rw [total_sum]
  have el : (List.zipWith (fun p (n : Int) => p * (n : Rat)) ps ns).length = n := by rw [List.length_zipWith]; omega
  rw [el]
  exact Cm.sum_congr fun k hk => vec_zip (by omega) (by omega)
theorem cost_shr {n : Nat} {fees : List Int} (hf : fees.length = n) (h1 : 1 ≤ n) (h3 : n ≤ 3) : ∃ p q r : Rat, ∀ a b : Rat, (n < 3 → a + b = 1) → (n < 2 → b = 0) → cost n fees (shr a b) = p * a + q * b + r := by
  unfold cost
  rcases (by omega : n = 1 ∨ n = 2 ∨ n = 3) with rfl | rfl | rfl
  · match fees, hf with
    | [f0], _ => exact ⟨f0, 0, 0, fun a b ha hb => by rw [sum1, v_head]; simp only [shr]; grind⟩
  · match fees, hf with
    | [f0, f1], _ => exact ⟨f0, f1, 0, fun a b ha hb => by rw [sum2, v_head, v_cons, v_head]; simp only [shr]; grind⟩
  · match fees, hf with
    | [f0, f1, f2], _ => exact ⟨(f0 : Rat) - f2, (f1 : Rat) - f2, f2, fun a b ha hb => by rw [sum3, v_head, v_cons, v_head, v_cons, v_cons, v_head]; simp only [shr]; grind⟩
theorem tri_cuts (n : Nat) (ws : List Want) : Cm.Tri (mCuts n ws) := by
  unfold mCuts
  refine ⟨?_, ?_, ?_⟩ <;> exact List.mem_append_left _ (List.mem_append_left _ (List.mem_append_left _ (by simp [cut3])))
theorem wfeas_congr {n : Nat} {ws : List Want} {y z : Nat → Rat} (h : WFeas n ws y) (e : ∀ k, k < n → y k = z k) : WFeas n ws z :=
  ⟨fun k hk => by rw [← e k hk]; exact h.nn k hk, by rw [← Cm.sum_congr e]; exact h.one, fun w hw => by rw [← Cm.sum_congr (f := fun k => vec (rats w.1) k * y k) fun k hk => by rw [e k hk]]; exact h.row w hw⟩
/-- each cost is one of shares that keep the wants -/
theorem costs_sound {n : Nat} {ws : List Want} {fees : List Int} (ok : WantsOk n ws) (hf : fees.length = n) {q : Rat} (h : q ∈ mCosts n fees (mCuts n ws)) : ∃ y, WFeas n ws y ∧ q = cost n fees y := by
  unfold mCosts at h
  obtain ⟨s, hs, rfl⟩ := List.mem_map.mp h
  obtain ⟨hu, hin⟩ := spot_in hs
  refine ⟨vec (spotP n s), wfeas_congr ((cuts_iff ok _ _).mp hin).1 fun k hk => (spot_shr hu hk ok.t3).symm, weighed_sum (spot_len ok.t3 s) hf⟩
/-- shares that keep the wants cost no less than some spot -/
theorem costs_all {n : Nat} {ws : List Want} {fees : List Int} (ok : WantsOk n ws) (hf : fees.length = n) {y : Nat → Rat} (h : WFeas n ws y) : ∃ q ∈ mCosts n fees (mCuts n ws), q ≤ cost n fees y := by
  have t1 := ok.t1
  have t3 := ok.t3
  obtain ⟨p, q, r, hpq⟩ := cost_shr hf t1 t3
  -- the point of the shares
  obtain ⟨a, b, hab, n3, n2⟩ : ∃ a b : Rat, (∀ k, k < n → y k = shr a b k) ∧ (n < 3 → a + b = 1) ∧ (n < 2 → b = 0) := by
    have ho := h.one
    rcases (by omega : n = 1 ∨ n = 2 ∨ n = 3) with rfl | rfl | rfl
    · rw [sum1] at ho
      refine ⟨y 0, 0, fun k hk => ?_, fun _ => by grind, fun _ => rfl⟩
      obtain rfl : k = 0 := by omega
      rfl
    · rw [sum2] at ho
      refine ⟨y 0, y 1, fun k hk => ?_, fun _ => by grind, fun h => by omega⟩
      rcases (by omega : k = 0 ∨ k = 1) with rfl | rfl <;> rfl
    · rw [sum3] at ho
      refine ⟨y 0, y 1, fun k hk => ?_, fun h => by omega, fun h => by omega⟩
      rcases (by omega : k = 0 ∨ k = 1 ∨ k = 2) with rfl | rfl | rfl
      · rfl
      · rfl
      · simp only [shr]
        grind
  have hw := wfeas_congr h hab
  have tri : 0 ≤ a ∧ 0 ≤ b ∧ a + b ≤ 1 := by
    have hn := h.nn
    rcases (by omega : n = 1 ∨ n = 2 ∨ n = 3) with rfl | rfl | rfl
    · have e0 := hn 0 (by omega)
      rw [hab 0 (by omega)] at e0
      have e1 := n3 (by omega)
      have e2 := n2 (by omega)
      simp only [shr] at e0
      grind
    · have e0 := hn 0 (by omega)
      have e1 := hn 1 (by omega)
      rw [hab 0 (by omega)] at e0
      rw [hab 1 (by omega)] at e1
      have e2 := n3 (by omega)
      simp only [shr] at e0 e1
      grind
    · have e0 := hn 0 (by omega)
      have e1 := hn 1 (by omega)
      have e2 := hn 2 (by omega)
      rw [hab 0 (by omega)] at e0
      rw [hab 1 (by omega)] at e1
      rw [hab 2 (by omega)] at e2
      simp only [shr] at e0 e1 e2
      grind
  have hin := (cuts_iff ok a b).mpr ⟨hw, tri.1, tri.2.1, tri.2.2, n3, n2⟩
  obtain ⟨s, hs, le⟩ := spots_all (tri_cuts n ws) hin p q
  obtain ⟨hu, hin2⟩ := spot_in hs
  obtain ⟨_, _, _, _, m3, m2⟩ := (cuts_iff ok _ _).mp hin2
  refine ⟨_, List.mem_map.mpr ⟨s, hs, rfl⟩, ?_⟩
  have e1 : cost n fees y = p * a + q * b + r := by
    rw [← hpq a b n3 n2]
    exact Cm.sum_congr fun k hk => by rw [hab k hk]
  have e2 : cost n fees (vec (spotP n s)) = p * spX s + q * spY s + r := by
    rw [← hpq _ _ m3 m2]
    exact Cm.sum_congr fun k hk => by rw [spot_shr hu hk t3]
  rw [weighed_sum (spot_len t3 s) hf, e1, e2]
  grind
end Cs
set_option Elab.async false
set_option linter.all false
set_option maxRecDepth 100000
set_option maxHeartbeats 8000000
/-! the answers to one question are right -/
namespace Cs
open PySem PySem.Spec PyProof.Rows L2
/-- the cheapest of what fits -/
def Opt (n : Nat) (fees : List Int) (F : (Nat → Rat) → Prop) : Option (List Rat × Rat) → Prop
  | none => ∀ y, ¬ F y
  | some (x, q) => x.length = n ∧ F (vec x) ∧ q = cost n fees (vec x) ∧ ∀ y, F y → q ≤ cost n fees y
theorem opt_of {n : Nat} {rows : List (List Rat × Rat)} {fees : List Int} (hn : 0 < n) : ∀ {o : Option (List Rat × Rat)}, CheapOut n rows fees o → Opt n fees (FeasR n rows) o
  | none, h => opt_none hn h
  | some (_, _), h => opt_some hn h
theorem Opt.iff {n : Nat} {fees : List Int} {F G : (Nat → Rat) → Prop} (e : ∀ y, F y ↔ G y) : ∀ {o : Option (List Rat × Rat)}, Opt n fees F o → Opt n fees G o
  | none, h => fun y hy => h y ((e y).mpr hy)
  | some (x, q), ⟨h1, h2, h3, h4⟩ => ⟨h1, (e _).mp h2, h3, fun y hy => h4 y ((e y).mpr hy)⟩
theorem agree_of {n : Nat} {ws : List Want} {fees : List Int} (ok : WantsOk n ws) (hf : fees.length = n) : ∀ {o : Option (List Rat × Rat)}, Opt n fees (WFeas n ws) o → Agree o (mCosts n fees (mCuts n ws))
  | none, h => by
    show _ = _
    rw [List.eq_nil_iff_forall_not_mem]
    intro q hq
    obtain ⟨y, hy, _⟩ := costs_sound ok hf hq
    exact h y hy
  | some (x, q), ⟨h1, h2, h3, h4⟩ => by
    obtain ⟨r, hr, le⟩ := costs_all ok hf h2
    have low : ∀ r ∈ mCosts n fees (mCuts n ws), q ≤ r := fun r hr => by
      obtain ⟨y, hy, rfl⟩ := costs_sound ok hf hr
      exact h4 y hy
    have e : q = r := by
      have := low r hr
      grind
    exact ⟨e ▸ hr, low⟩
/-! ### what is kept -/
def dot (n : Nat) (ns : List Int) (y : Nat → Rat) : Rat := Cm.sumTo n fun i => vec (rats ns) i * y i
theorem dot_map {n : Nat} {ns : List Int} {y : Nat → Rat} (g : Int → Int) (c : Int) (h : ∀ x, g x = c * x) : dot n (ns.map g) y = (c : Rat) * dot n ns y := by
  unfold dot
  rw [← Cm.sum_mul]
  refine Cm.sum_congr fun i _ => ?_
  have e : vec (rats (ns.map g)) i = (c : Rat) * vec (rats ns) i := by
    unfold vec rats
    rw [List.getD_eq_getElem?_getD, List.getD_eq_getElem?_getD, List.getElem?_map, List.getElem?_map, List.getElem?_map]
    cases ns[i]? with
    | none =>
      show (0 : Rat) = c * 0
      grind
    | some z =>
      show ((g z : Int) : Rat) = c * (z : Rat)
      rw [h]
      simp
  rw [e]
  grind
structure Base (n : Nat) (y : Nat → Rat) : Prop where
  nn : ∀ k, k < n → 0 ≤ y k
  one : Cm.sumTo n y = 1
abbrev aLo (aim : Aim) (k : Nat) : Rat := ((pick 0 (aim.getD k (0, 0)) : Int) : Rat)
abbrev aHi (aim : Aim) (k : Nat) : Rat := ((pick 1 (aim.getD k (0, 0)) : Int) : Rat)
/-- mixes that keep at most by one end, at least by the other -/
structure Keep (b : Body) (aim : Aim) (near : Nat) (y : Nat → Rat) : Prop where
  base : Base b.length y
  hit : ∀ k, k < aim.length → dot b.length (bEnds b k near) y ≤ aHi aim k ∧ aLo aim k ≤ dot b.length (bEnds b k (1 - near)) y
/-- corner mixes -/
structure KeepC (b : Body) (aim : Aim) (sg : List Int) (y : Nat → Rat) : Prop where
  base : Base b.length y
  hit : ∀ k, k < aim.length → if 0 < sg.getD k 0 then dot b.length (bEnds b k 1) y ≤ aHi aim k else aLo aim k ≤ dot b.length (bEnds b k 0) y
theorem ends_lines {b : Body} (h : b.length ≤ 6) (k e : Nat) : endsAt (mLines b) k e = bEnds b k e := by
  unfold endsAt bEnds
  conv => rhs; rw [← mLines_snd h]
  rw [List.map_map]
  rfl
section
variable {b : Body} {aim : Aim}
theorem keep_iff (h6 : b.length ≤ 6) {near : Nat} (y : Nat → Rat) : FeasR b.length (mBoth (mLines b) aim aim.length near) y ↔ Keep b aim near y := by
  have most : ∀ k, (Cm.sumTo b.length fun i => vec (mMost (mLines b) aim k near 1).1 i * y i) = dot b.length (bEnds b k near) y := fun k => by
    show dot b.length (endsAt (mLines b) k near) y = _
    rw [ends_lines h6]
  have least : ∀ k, (Cm.sumTo b.length fun i => vec (mLeast (mLines b) aim k (1 - near) 0).1 i * y i) = -dot b.length (bEnds b k (1 - near)) y := fun k => by
    show dot b.length ((endsAt (mLines b) k (1 - near)).map fun n => 0 - n) y = _
    rw [ends_lines h6, dot_map _ (-1) fun x => by omega]
    simp
    grind
  have l2 : ∀ k, (mLeast (mLines b) aim k (1 - near) 0).2 = -aLo aim k := fun k => by
    show ((0 - pick 0 (aim.getD k (0, 0)) : Int) : Rat) = _
    simp
    grind
  constructor
  · intro h
    refine ⟨⟨h.nn, h.one⟩, fun k hk => ⟨?_, ?_⟩⟩
    · have := h.row (mMost (mLines b) aim k near 1) (List.mem_append_left _ (List.mem_map.mpr ⟨k, List.mem_range.mpr hk, rfl⟩))
      rw [most] at this
      exact this
    · have := h.row (mLeast (mLines b) aim k (1 - near) 0) (List.mem_append_right _ (List.mem_map.mpr ⟨k, List.mem_range.mpr hk, rfl⟩))
      rw [least, l2] at this
      grind
  · intro h
    refine ⟨h.base.nn, h.base.one, fun r hr => ?_⟩
    rcases List.mem_append.mp hr with hr | hr
    · obtain ⟨k, hk, rfl⟩ := List.mem_map.mp hr
      rw [most]
      exact (h.hit k (List.mem_range.mp hk)).1
    · obtain ⟨k, hk, rfl⟩ := List.mem_map.mp hr
      rw [least, l2]
      have := (h.hit k (List.mem_range.mp hk)).2
      grind
theorem keepC_iff (h6 : b.length ≤ 6) {sg : List Int} (hs : sg.length = aim.length) (y : Nat → Rat) : FeasR b.length (mCorner (mLines b) aim sg) y ↔ KeepC b aim sg y := by
  have most : ∀ k, (Cm.sumTo b.length fun i => vec (mMost (mLines b) aim k 1 1).1 i * y i) = dot b.length (bEnds b k 1) y := fun k => by
    show dot b.length (endsAt (mLines b) k 1) y = _
    rw [ends_lines h6]
  have least : ∀ k, (Cm.sumTo b.length fun i => vec (mLeast (mLines b) aim k 0 0).1 i * y i) = -dot b.length (bEnds b k 0) y := fun k => by
    show dot b.length ((endsAt (mLines b) k 0).map fun n => 0 - n) y = _
    rw [ends_lines h6, dot_map _ (-1) fun x => by omega]
    simp
    grind
  have l2 : ∀ k, (mLeast (mLines b) aim k 0 0).2 = -aLo aim k := fun k => by
    show ((0 - pick 0 (aim.getD k (0, 0)) : Int) : Rat) = _
    simp
    grind
  have row : ∀ k s, sg[k]? = some s → (mCorner (mLines b) aim sg)[k]? = some (if 0 < s then mMost (mLines b) aim k 1 1 else mLeast (mLines b) aim k 0 0) := fun k s e => by
    unfold mCorner
    rw [List.getElem?_mapIdx, e]
    rfl
  constructor
  · intro h
    refine ⟨⟨h.nn, h.one⟩, fun k hk => ?_⟩
    have e : sg[k]? = some sg[k] := List.getElem?_eq_getElem (by omega)
    have hr := h.row _ (List.mem_of_getElem? (row k _ e))
    rw [List.getD_eq_getElem?_getD, e]
    show if 0 < sg[k] then _ else _
    split at hr <;> rename_i hp
    · rw [if_pos hp]
      rw [most] at hr
      exact hr
    · rw [if_neg hp]
      rw [least, l2] at hr
      grind
  · intro h
    refine ⟨h.base.nn, h.base.one, fun r hr => ?_⟩
    obtain ⟨k, hk⟩ := List.mem_iff_getElem?.mp hr
    have hkl : k < sg.length := by
      rcases List.getElem?_eq_some_iff.mp hk with ⟨hi, _⟩
      rwa [corner_len] at hi
    have e : sg[k]? = some sg[k] := List.getElem?_eq_getElem hkl
    rw [row k _ e] at hk
    have hh := h.hit k (by omega)
    rw [List.getD_eq_getElem?_getD, e] at hh
    replace hh : if 0 < sg[k] then dot b.length (bEnds b k 1) y ≤ aHi aim k else aLo aim k ≤ dot b.length (bEnds b k 0) y := hh
    cases hk
    split <;> rename_i hp
    · rw [if_pos hp] at hh
      rw [most]
      exact hh
    · rw [if_neg hp] at hh
      rw [least, l2]
      grind
theorem some_iff (y : Nat → Rat) : WFeas b.length (mSome b aim) y ↔ Keep b aim 0 y := by
  have neg : ∀ k, dot b.length ((bEnds b k 1).map (- ·)) y = -dot b.length (bEnds b k 1) y := fun k => by
    rw [dot_map _ (-1) fun x => by omega]
    simp
    grind
  have l2 : ∀ k, ((-pick 0 (aim.getD k (0, 0)) : Int) : Rat) = -aLo aim k := fun k => by rw [Rat.intCast_neg]
  have mem : ∀ w : Want, w ∈ mSome b aim ↔ ∃ k, k < aim.length ∧ (w = (bEnds b k 0, pick 1 (aim.getD k (0, 0))) ∨ w = ((bEnds b k 1).map (- ·), -pick 0 (aim.getD k (0, 0)))) := fun w => by
    unfold mSome
    rw [List.mem_flatMap]
    constructor
    · rintro ⟨k, hk, h⟩
      refine ⟨k, List.mem_range.mp hk, ?_⟩
      simpa using h
    · rintro ⟨k, hk, h⟩
      refine ⟨k, List.mem_range.mpr hk, ?_⟩
      simpa using h
  constructor
  · intro h
    refine ⟨⟨h.nn, h.one⟩, fun k hk => ⟨h.row _ ((mem _).mpr ⟨k, hk, .inl rfl⟩), ?_⟩⟩
    have h2 := h.row _ ((mem _).mpr ⟨k, hk, .inr rfl⟩)
    replace h2 : dot b.length ((bEnds b k 1).map (- ·)) y ≤ ((-pick 0 (aim.getD k (0, 0)) : Int) : Rat) := h2
    rw [neg, l2] at h2
    show aLo aim k ≤ dot b.length (bEnds b k 1) y
    grind
  · intro h
    refine ⟨h.base.nn, h.base.one, fun w hw => ?_⟩
    obtain ⟨k, hk, hw⟩ := (mem w).mp hw
    have hh := h.hit k hk
    rcases hw with rfl | rfl
    · exact hh.1
    · show dot b.length ((bEnds b k 1).map (- ·)) y ≤ ((-pick 0 (aim.getD k (0, 0)) : Int) : Rat)
      have h2 : aLo aim k ≤ dot b.length (bEnds b k 1) y := hh.2
      rw [neg, l2]
      grind
theorem mem_wants {s : Int} (w : Want) : w ∈ mWants b aim (List.replicate aim.length s) ↔ ∃ k, k < aim.length ∧ w = mWant b aim k s := by
  unfold mWants
  rw [List.mem_map]
  constructor
  · rintro ⟨k, hk, rfl⟩
    refine ⟨k, List.mem_range.mp hk, ?_⟩
    rw [List.getD_eq_getElem?_getD, List.getElem?_replicate, if_pos (List.mem_range.mp hk)]
    rfl
  · rintro ⟨k, hk, rfl⟩
    refine ⟨k, List.mem_range.mpr hk, ?_⟩
    rw [List.getD_eq_getElem?_getD, List.getElem?_replicate, if_pos hk]
    rfl
theorem sure_iff (y : Nat → Rat) : WFeas b.length (mSure b aim) y ↔ Keep b aim 1 y := by
  have pos : ∀ k, dot b.length ((bEnds b k 1).map ((1 : Int) * ·)) y = dot b.length (bEnds b k 1) y := fun k => by
    rw [dot_map _ 1 fun x => rfl]
    simp
  have neg : ∀ k, dot b.length ((bEnds b k 0).map ((-1 : Int) * ·)) y = -dot b.length (bEnds b k 0) y := fun k => by
    rw [dot_map _ (-1) fun x => rfl]
    simp
    grind
  have l1 : ∀ k, ((1 * pick 1 (aim.getD k (0, 0)) : Int) : Rat) = aHi aim k := fun k => by rw [Int.one_mul]
  have l2 : ∀ k, ((-1 * pick 0 (aim.getD k (0, 0)) : Int) : Rat) = -aLo aim k := fun k => by
    rw [Int.neg_mul, Int.one_mul, Rat.intCast_neg]
  constructor
  · intro h
    refine ⟨⟨h.nn, h.one⟩, fun k hk => ⟨?_, ?_⟩⟩
    · have h2 := h.row _ (List.mem_append_left _ ((mem_wants (s := 1) _).mpr ⟨k, hk, rfl⟩))
      replace h2 : dot b.length ((bEnds b k 1).map ((1 : Int) * ·)) y ≤ ((1 * pick 1 (aim.getD k (0, 0)) : Int) : Rat) := h2
      rw [pos, l1] at h2
      exact h2
    · have h2 := h.row _ (List.mem_append_right _ ((mem_wants (s := -1) _).mpr ⟨k, hk, rfl⟩))
      replace h2 : dot b.length ((bEnds b k 0).map ((-1 : Int) * ·)) y ≤ ((-1 * pick 0 (aim.getD k (0, 0)) : Int) : Rat) := h2
      rw [neg, l2] at h2
      show aLo aim k ≤ dot b.length (bEnds b k 0) y
      grind
  · intro h
    refine ⟨h.base.nn, h.base.one, fun w hw => ?_⟩
    rcases List.mem_append.mp hw with hw | hw
    · obtain ⟨k, hk, rfl⟩ := (mem_wants w).mp hw
      show dot b.length ((bEnds b k 1).map ((1 : Int) * ·)) y ≤ ((1 * pick 1 (aim.getD k (0, 0)) : Int) : Rat)
      rw [pos, l1]
      exact (h.hit k hk).1
    · obtain ⟨k, hk, rfl⟩ := (mem_wants w).mp hw
      show dot b.length ((bEnds b k 0).map ((-1 : Int) * ·)) y ≤ ((-1 * pick 0 (aim.getD k (0, 0)) : Int) : Rat)
      have h2 : aLo aim k ≤ dot b.length (bEnds b k 0) y := (h.hit k hk).2
      rw [neg, l2]
      grind
/-! ### wants are taken -/
theorem ends_bd {n : Nat} (ok : BodyOk b n) (k e : Nat) : ∀ z ∈ bEnds b k e, -100 ≤ z ∧ z ≤ 100 := fun z hz => by
  obtain ⟨r, hr, rfl⟩ := List.mem_map.mp hz
  by_cases hk : k < r.length
  · rw [List.getD_eq_getElem?_getD, List.getElem?_eq_getElem hk]
    exact pick_bd (ok.bd r hr _ (List.getElem_mem hk)) e
  · rw [List.getD_eq_getElem?_getD, List.getElem?_eq_none (by omega)]
    show -100 ≤ pick e (0, 0) ∧ pick e (0, 0) ≤ 100
    unfold pick
    split <;> omega
theorem aim_bd (h : ∀ p ∈ aim, Bd p) (k e : Nat) : -100 ≤ pick e (aim.getD k (0, 0)) ∧ pick e (aim.getD k (0, 0)) ≤ 100 := by
  by_cases hk : k < aim.length
  · rw [List.getD_eq_getElem?_getD, List.getElem?_eq_getElem hk]
    exact pick_bd (h _ (List.getElem_mem hk)) e
  · rw [List.getD_eq_getElem?_getD, List.getElem?_eq_none (by omega)]
    show -100 ≤ pick e (0, 0) ∧ pick e (0, 0) ≤ 100
    unfold pick
    split <;> omega
theorem ends_len (b : Body) (k e : Nat) : (bEnds b k e).length = b.length := List.length_map _
theorem wants_some (ok : BodyOk b aim.length) (h1 : 1 ≤ b.length) (h3 : aim.length ≤ 3) (ha : ∀ p ∈ aim, Bd p) : WantsOk b.length (mSome b aim) := by
  have mem : ∀ w ∈ mSome b aim, ∃ k, w = (bEnds b k 0, pick 1 (aim.getD k (0, 0))) ∨ w = ((bEnds b k 1).map (- ·), -pick 0 (aim.getD k (0, 0))) := fun w hw => by
    obtain ⟨k, _, h⟩ := List.mem_flatMap.mp hw
    exact ⟨k, by simpa using h⟩
  refine ⟨h1, ok.t3, ?_, fun w hw => ?_, fun w hw n hn => ?_, fun w hw => ?_⟩
  · unfold mSome
    rw [List.length_flatMap]
    have : ∀ l : List Nat, (l.map fun k => [(bEnds b k 0, pick 1 (aim.getD k (0, 0))), ((bEnds b k 1).map (- ·), -pick 0 (aim.getD k (0, 0)))].length).sum = 2 * l.length := fun l => by
      induction l with
      | nil => rfl
      | cons a l ih =>
        rw [List.map_cons, List.sum_cons, ih, List.length_cons]
        show 2 + 2 * l.length = 2 * (l.length + 1)
        omega
    rw [this, List.length_range]
    omega
  · obtain ⟨k, rfl | rfl⟩ := mem w hw
    · exact ends_len b k 0
    · exact (List.length_map _).trans (ends_len b k 1)
  · obtain ⟨k, rfl | rfl⟩ := mem w hw
    · exact ends_bd ok k 0 n hn
    · obtain ⟨z, hz, rfl⟩ := List.mem_map.mp hn
      have := ends_bd ok k 1 z hz
      omega
  · obtain ⟨k, rfl | rfl⟩ := mem w hw
    · exact aim_bd ha k 1
    · have := aim_bd ha k 0
      show -100 ≤ -pick 0 (aim.getD k (0, 0)) ∧ -pick 0 (aim.getD k (0, 0)) ≤ 100
      omega
theorem wants_sure (ok : BodyOk b aim.length) (h1 : 1 ≤ b.length) (h3 : aim.length ≤ 3) (ha : ∀ p ∈ aim, Bd p) : WantsOk b.length (mSure b aim) := by
  have mem : ∀ w ∈ mSure b aim, ∃ k, w = mWant b aim k 1 ∨ w = mWant b aim k (-1) := fun w hw => by
    rcases List.mem_append.mp hw with hw | hw
    · obtain ⟨k, _, h⟩ := (mem_wants w).mp hw
      exact ⟨k, .inl h⟩
    · obtain ⟨k, _, h⟩ := (mem_wants w).mp hw
      exact ⟨k, .inr h⟩
  refine ⟨h1, ok.t3, ?_, fun w hw => ?_, fun w hw n hn => ?_, fun w hw => ?_⟩
  · unfold mSure mWants
    rw [List.length_append, List.length_map, List.length_map, List.length_range]
    omega
  · obtain ⟨k, rfl | rfl⟩ := mem w hw <;> exact (List.length_map _).trans (ends_len b k _)
  · obtain ⟨k, rfl | rfl⟩ := mem w hw
    · obtain ⟨z, hz, rfl⟩ := List.mem_map.mp hn
      have := ends_bd ok k _ z hz
      omega
    · obtain ⟨z, hz, rfl⟩ := List.mem_map.mp hn
      have := ends_bd ok k _ z hz
      omega
  · obtain ⟨k, rfl | rfl⟩ := mem w hw
    · have := aim_bd ha k (sgE 1)
      show -100 ≤ 1 * pick (sgE 1) (aim.getD k (0, 0)) ∧ 1 * pick (sgE 1) (aim.getD k (0, 0)) ≤ 100
      omega
    · have := aim_bd ha k (sgE (-1))
      show -100 ≤ -1 * pick (sgE (-1)) (aim.getD k (0, 0)) ∧ -1 * pick (sgE (-1)) (aim.getD k (0, 0)) ≤ 100
      omega
/-! ### the three prices -/
theorem signs_all : ∀ (n : Nat) (s : Nat → Bool), ∃ sg ∈ mSigns n, sg.length = n ∧ ∀ k, k < n → sg.getD k 0 = if s k then 1 else -1
  | 0, s => ⟨[], by simp [mSigns], rfl, fun k hk => by omega⟩
  | n + 1, s => by
    obtain ⟨sg, h1, h2, h3⟩ := signs_all n s
    refine ⟨sg ++ [if s n then 1 else -1], ?_, by rw [List.length_append, h2]; rfl, fun k hk => ?_⟩
    · show _ ∈ (mSigns n).flatMap fun r => [r ++ [-1], r ++ [1]]
      refine List.mem_flatMap.mpr ⟨sg, h1, ?_⟩
      cases s n <;> simp
    · by_cases e : k = n
      · subst e
        rw [List.getD_eq_getElem?_getD, List.getElem?_append_right (by omega), h2, Nat.sub_self]
        rfl
      · have := h3 k (by omega)
        rw [List.getD_eq_getElem?_getD, List.getElem?_append_left (by omega), ← List.getD_eq_getElem?_getD]
        exact this
theorem ends_le {n : Nat} (ok : BodyOk b n) {y : Nat → Rat} (hy : Base b.length y) (k : Nat) : dot b.length (bEnds b k 0) y ≤ dot b.length (bEnds b k 1) y := by
  unfold dot
  refine Cm.sum_le fun i hi => ?_
  have h : vec (rats (bEnds b k 0)) i ≤ vec (rats (bEnds b k 1)) i := by
    unfold vec rats bEnds
    rw [List.getD_eq_getElem?_getD, List.getD_eq_getElem?_getD, List.getElem?_map, List.getElem?_map, List.getElem?_map, List.getElem?_map, List.getElem?_eq_getElem hi]
    show ((pick 0 (b[i].getD k (0, 0)) : Int) : Rat) ≤ ((pick 1 (b[i].getD k (0, 0)) : Int) : Rat)
    rw [Rat.intCast_le_intCast]
    by_cases hk : k < b[i].length
    · rw [List.getD_eq_getElem?_getD, List.getElem?_eq_getElem hk]
      exact (ok.bd _ (List.getElem_mem hi) _ (List.getElem_mem hk)).2.1
    · rw [List.getD_eq_getElem?_getD, List.getElem?_eq_none (by omega)]
      exact Int.le_refl _
  have := Rat.mul_nonneg (show 0 ≤ vec (rats (bEnds b k 1)) i - vec (rats (bEnds b k 0)) i by grind) (hy.nn i hi)
  grind
theorem sure_corner {y : Nat → Rat} (h : Keep b aim 1 y) (sg : List Int) : KeepC b aim sg y := ⟨h.base, fun k hk => by
  have hh := h.hit k hk
  split
  · exact hh.1
  · exact hh.2⟩
/-- all corners have mixes of some price: then a possible mix has it -/
theorem corners_some {n : Nat} {fees : List Int} (ok : BodyOk b n) (ha : ∀ p ∈ aim, Bd p) (u : Rat) (h : ∀ sg ∈ mSigns aim.length, ∃ y, KeepC b aim sg y ∧ cost b.length fees y ≤ u) : ∃ y, Keep b aim 0 y ∧ cost b.length fees y ≤ u := by
  have cv : Cm.Conv fun y => Base b.length y ∧ cost b.length fees y ≤ u := by
    refine Cm.Conv.le ?_ (Cm.lin_sum _ _) u
    intro t x y h0 h1 hx hy
    refine ⟨fun k hk => ?_, ?_⟩
    · have p := Rat.mul_nonneg (show 0 ≤ 1 - t by grind) (hx.nn k hk)
      have q := Rat.mul_nonneg h0 (hy.nn k hk)
      show 0 ≤ (1 - t) * x k + t * y k
      grind
    · show (Cm.sumTo b.length fun k => (1 - t) * x k + t * y k) = 1
      rw [Cm.sum_add, Cm.sum_mul, Cm.sum_mul, show (Cm.sumTo b.length fun i => x i) = 1 from hx.one, show (Cm.sumTo b.length fun i => y i) = 1 from hy.one]
      grind
  obtain ⟨y, ⟨hb, hc⟩, hk⟩ := Cm.box aim.length _ (fun k y => dot b.length (bEnds b k 0) y) (aLo aim) (aHi aim) cv (fun k _ => Cm.lin_sum _ _)
    (fun k hk => by
      rw [Rat.intCast_le_intCast, List.getD_eq_getElem?_getD, List.getElem?_eq_getElem hk]
      exact (ha _ (List.getElem_mem hk)).2.1)
    (fun s => by
      obtain ⟨sg, hs, hl, hg⟩ := signs_all aim.length s
      obtain ⟨y, hy, hc⟩ := h sg hs
      refine ⟨y, ⟨hy.base, hc⟩, fun k hk => ?_⟩
      have hh := hy.hit k hk
      rw [hg k hk] at hh
      have le := ends_le ok hy.base k
      cases hsk : s k
      · rw [hsk] at hh
        simpa using hh
      · rw [hsk] at hh
        replace hh : dot b.length (bEnds b k 1) y ≤ aHi aim k := by simpa using hh
        show (if true = true then dot b.length (bEnds b k 0) y ≤ aHi aim k else _)
        rw [if_pos rfl]
        exact Rat.le_trans le hh)
  exact ⟨y, ⟨hb, fun k hk' => ⟨(hk k hk').2, Rat.le_trans (hk k hk').1 (ends_le ok hb k)⟩⟩, hc⟩
end
/-! ### all of it -/
theorem fix_len (b : Body) : (fixB b).length = b.length := List.length_map _
theorem fix_ends (b : Body) (k : Nat) : bEnds (fixB b) k 0 = bEnds (fixB b) k 1 := by
  unfold bEnds fixB
  rw [List.map_map, List.map_map]
  refine List.map_congr_left fun r _ => ?_
  show pick 0 ((r.map fun p => (p.1, p.1)).getD k (0, 0)) = pick 1 ((r.map fun p => (p.1, p.1)).getD k (0, 0))
  rw [List.getD_eq_getElem?_getD, List.getElem?_map]
  cases r[k]? <;> rfl
theorem fix_keep {b : Body} {aim : Aim} (y : Nat → Rat) : Keep (fixB b) aim 0 y ↔ Keep (fixB b) aim 1 y := by
  constructor
  · intro h
    refine ⟨h.base, fun k hk => ?_⟩
    have hh := h.hit k hk
    rw [show (1 - 1 : Nat) = 0 from rfl, ← fix_ends b k]
    rw [show (1 - 0 : Nat) = 1 from rfl, ← fix_ends b k] at hh
    exact hh
  · intro h
    refine ⟨h.base, fun k hk => ?_⟩
    have hh := h.hit k hk
    rw [show (1 - 0 : Nat) = 1 from rfl, ← fix_ends b k]
    rw [show (1 - 1 : Nat) = 0 from rfl, ← fix_ends b k] at hh
    exact hh
theorem fix_ok {b : Body} {n : Nat} (ok : BodyOk b n) : BodyOk (fixB b) n := by
  refine ⟨by rw [fix_len]; exact ok.t3, fun r hr => ?_, fun r hr p hp => ?_⟩
  · obtain ⟨r0, h0, rfl⟩ := List.mem_map.mp hr
    rw [List.length_map]
    exact ok.wd r0 h0
  · obtain ⟨r0, h0, rfl⟩ := List.mem_map.mp hr
    obtain ⟨p0, hp0, rfl⟩ := List.mem_map.mp hp
    obtain ⟨h1, h2, h3⟩ := ok.bd r0 h0 p0 hp0
    exact ⟨h1, Int.le_refl _, by show p0.1 ≤ 100; omega⟩
section
variable {b : Body} {aim : Aim} {fees : List Int}
theorem corner_opt (h1 : 1 ≤ b.length) (h6 : b.length ≤ 6) {sg : List Int} (hs : sg ∈ mSigns aim.length) {o : Option (List Rat × Rat)} (h : CheapOut (mLines b).length (mCorner (mLines b) aim sg) fees o) : Opt b.length fees (KeepC b aim sg) o := by
  rw [mLines_len h6] at h
  exact (opt_of (by omega) h).iff (keepC_iff h6 (mSigns_row_len _ _ hs))
theorem both_opt (h1 : 1 ≤ b.length) (h6 : b.length ≤ 6) {near : Nat} {o : Option (List Rat × Rat)} (h : CheapOut b.length (mBoth (mLines b) aim aim.length near) fees o) : Opt b.length fees (Keep b aim near) o := (opt_of (by omega) h).iff (keep_iff h6)
theorem signs_some (n : Nat) : ∃ sg, sg ∈ mSigns n := by
  obtain ⟨sg, h, _⟩ := signs_all n fun _ => true
  exact ⟨sg, h⟩
/-- a sure mix costs no less than the dearest corner -/
theorem top_le (h1 : 1 ≤ b.length) (h6 : b.length ≤ 6) {y : Nat → Rat} (hy : Keep b aim 1 y) : ¬ NoCorner (mLines b) aim aim.length fees ∧ ∀ q, TopCorner (mLines b) aim aim.length fees q → q ≤ cost b.length fees y := by
  constructor
  · rintro ⟨sg, hs, hc⟩
    exact corner_opt h1 h6 hs hc y (sure_corner hy sg)
  · rintro q ⟨⟨sg, hs, x, hc⟩, _⟩
    exact (corner_opt h1 h6 hs hc).2.2.2 y (sure_corner hy sg)
theorem top_some {n : Nat} (ok : BodyOk b n) (ha : ∀ p ∈ aim, Bd p) (h1 : 1 ≤ b.length) (h6 : b.length ≤ 6) {q : Rat} (h : TopCorner (mLines b) aim aim.length fees q) : ∃ y, Keep b aim 0 y ∧ cost b.length fees y ≤ q := by
  refine corners_some ok ha q fun sg hs => ?_
  obtain ⟨x, q', hc, le⟩ := h.2 sg hs
  obtain ⟨_, hk, e, _⟩ := corner_opt h1 h6 hs hc
  exact ⟨vec x, hk, by rw [← e]; exact le⟩
theorem right_of (ok : BodyOk b aim.length) (h1 : 1 ≤ b.length) (h3 : aim.length ≤ 3) (ha : ∀ p ∈ aim, Bd p) (hf : fees.length = b.length) : Right b aim fees := by
  have h6 : b.length ≤ 6 := by
    have := ok.t3
    omega
  have fok := fix_ok ok
  have f1 : 1 ≤ (fixB b).length := by rw [fix_len]; exact h1
  have f6 : (fixB b).length ≤ 6 := by rw [fix_len]; exact h6
  have ff : fees.length = (fixB b).length := by rw [fix_len]; exact hf
  have wS := wants_sure ok h1 h3 ha
  have wP := wants_some ok h1 h3 ha
  have wF := wants_sure fok f1 h3 ha
  have ec : ∀ ws, costsOf b fees ws = mCosts (fixB b).length fees (mCuts (fixB b).length ws) := fun ws => by
    unfold costsOf
    rw [fix_len]
  refine ⟨fun o h => ?_, fun o h => ?_, fun near o o' hn h h' => ?_, fun x q h => ?_, fun o q' h ht => ?_, fun o h => ?_, fun o h => ?_, fun h => ?_, fun q h => ?_⟩
  · exact agree_of wP hf ((both_opt h1 h6 h).iff fun y => (some_iff y).symm)
  · exact agree_of wS hf ((both_opt h1 h6 h).iff fun y => (sure_iff y).symm)
  · have k := both_opt h1 h6 h
    have k' := both_opt h1 h6 h'
    refine ⟨?_, fun x q' e => ?_⟩
    · match o, o', k, k' with
      | none, none, _, _ => exact ⟨fun _ => rfl, fun _ => rfl⟩
      | none, some (x', q'), k, k' => exact (k _ k'.2.1).elim
      | some (x, q), none, k, k' => exact (k' _ k.2.1).elim
      | some _, some _, _, _ => exact ⟨fun z => (Option.some_ne_none _ z).elim, fun z => (Option.some_ne_none _ z).elim⟩
    · subst e
      obtain ⟨e1, e2, e3, e4⟩ := k'
      refine ⟨⟨e1, fun q hq => ?_, ?_⟩, fun x0 q e => ?_⟩
      · obtain ⟨i, hi, e⟩ := List.mem_iff_getElem.mp hq
        have := e2.base.nn i (by omega)
        rw [vec_at (q := q) (by rw [List.getElem?_eq_getElem hi, e])] at this
        exact this
      · rw [total_sum, e1]
        exact e2.base.one
      · subst e
        rw [weighed_sum e1 hf]
        exact k.2.2.2 _ e2
  · obtain ⟨_, k2, k3, _⟩ := both_opt h1 h6 h
    rw [k3]
    exact top_le h1 h6 k2
  · obtain ⟨y, hy, le⟩ := top_some ok ha h1 h6 ht
    have k := both_opt h1 h6 h
    match o, k with
    | none, k => exact (k y hy).elim
    | some (x, q), k => exact ⟨x, q, rfl, Rat.le_trans (k.2.2.2 y hy) le⟩
  · rw [ec]
    have h' : CheapOut (fixB b).length (mBoth (mLines (fixB b)) aim aim.length 0) fees o := by rw [fix_len]; exact h
    exact agree_of wF ff ((both_opt f1 f6 h').iff fun y => (fix_keep y).trans (sure_iff y).symm)
  · rw [ec]
    have h' : CheapOut (fixB b).length (mBoth (mLines (fixB b)) aim aim.length 1) fees o := by rw [fix_len]; exact h
    exact agree_of wF ff ((both_opt f1 f6 h').iff fun y => (sure_iff y).symm)
  · rw [ec, List.eq_nil_iff_forall_not_mem]
    intro q hq
    obtain ⟨y, hy, _⟩ := costs_sound wF ff hq
    exact (top_le f1 f6 ((sure_iff y).mp hy)).1 h
  · rw [ec]
    have low : ∀ r ∈ mCosts (fixB b).length fees (mCuts (fixB b).length (mSure (fixB b) aim)), q ≤ r := fun r hr => by
      obtain ⟨y, hy, rfl⟩ := costs_sound wF ff hr
      exact (top_le f1 f6 ((sure_iff y).mp hy)).2 q h
    obtain ⟨y, hy, le⟩ := top_some fok ha f1 f6 h
    obtain ⟨r, hr, le2⟩ := costs_all wF ff ((sure_iff y).mpr ((fix_keep y).mp hy))
    have e : q = r := by
      have := low r hr
      grind
    exact ⟨e ▸ hr, low⟩
end
end Cs
set_option Elab.async false
set_option linter.all false
set_option maxRecDepth 100000
set_option maxHeartbeats 8000000
/-! repr of data; promises that know the guards -/
namespace Cs
open PySem PySem.Spec PyProof.Rows L2
/-! ### repr -/
mutual
theorem dp_nodict {K : PySem.W.Frag} {H : Hp} : ∀ (d : PyData) (v : V), Dp K H v d → d.hasDict = false
  | .none, _, _ => by simp [PyData.hasDict]
  | .bool _, _, _ => by simp [PyData.hasDict]
  | .int _, _, _ => by simp [PyData.hasDict]
  | .str _, _, _ => by simp [PyData.hasDict]
  | .list ds, _, h => by
    cases h with
    | lst hs ha => simpa [PyData.hasDict] using dps_nodict ds _ ha
  | .tuple ds, _, h => by
    cases h with
    | tup hs ha => simpa [PyData.hasDict] using dps_nodict ds _ ha
  | .dict _, _, h => by cases h
theorem dps_nodict {K : PySem.W.Frag} {H : Hp} : ∀ (ds : List PyData) (vs : List V), DpAll K H vs ds → PyData.hasDictAll ds = false
  | [], _, _ => by simp [PyData.hasDictAll]
  | d :: ds, _, h => by
    cases h with
    | cons h1 h2 => simp [PyData.hasDictAll, dp_nodict d _ h1, dps_nodict ds _ h2]
end
def rRepr (K : PySem.W.Frag) : List V → Hp → VK → Prop := fun xs H Q => ∃ (a : Addr) (d : PyData), xs = [.ref a] ∧ Dp K H (.ref a) d ∧ d.showable = true ∧ d.depth ≤ 60 ∧ d.shown.length ≤ sizeLine ∧ Q (.str d.shown) H
theorem call_repr {X : Cx} (hg : X.A.guards = some []) (hu : X.A.units + 64 < cLine) : CallR X (.builtin "repr") (rRepr X.K) := by
  intro pins s σ H xs us Q I r h
  obtain ⟨a, d, rfl, hd, sh, dp, sz, q⟩ := h
  obtain ⟨u, rfl, rx⟩ := vals1 r
  obtain ⟨as, r1⟩ := Dp.reads I d (.ref a) u hd rx
  obtain rfl : u = Value.ref a := rx
  refine repr_of_reads' r1 sh (fun z => ?_) hg (by omega) (fun b o e => e) (fun h' u tk hk => ?_) sz
  · rw [dp_nodict d _ hd] at z
    cases z
  · exact ⟨.str d.shown, H, I.kept (t' := tk) hk, ⟨u, rfl⟩, q⟩
/-! ### promises that know the guards -/
structure FnG (P : Program) (w : World) (K : PySem.W.Frag) (mg : Str → Option Value) (base : Heap) (k : Nat) (f : Addr) (fd : FuncData) (ps : List Str) (sp : Sp) : Prop where
  len : ∀ vs H Q E, sp vs H Q E → vs.length = ps.length
  run : ∀ (A : Around) (outer : List Env) (s : Shared) (H : Hp) (args : Args) (us : List Value) (vs : List V) (Q : VK) (E : XK), Room k A → A.guards = some [] → Env0 P w K mg base A outer s H → BindsTo s fd args (ps.zip us) → Vals vs us → sp vs H Q E →
    codeAny (model P w) A (.call (.ref f) args) (CR CX0 outer P w H s Q E) s
structure CalG (P : Program) (w : World) (K : PySem.W.Frag) (mg : Str → Option Value) (base : Heap) (k : Nat) (x : Str) (ps : List Str) (sp : Sp) : Prop where
  ex : ∃ f fd, FnG P w K mg base k f fd ps sp ∧ PySem.W.keepIn K (.ref f) = true ∧ Binds K fd ps [] ∧ mg x = some (.ref f)
section
variable {P : Program} {w : World} {K : PySem.W.Frag} {mg : Str → Option Value} {base : Heap}
theorem fun_okG {x qual : Str} {st : Stmt} {f : Addr} {fd : FuncData} {N ps : List Str} {k : Nat} {sp : Sp} (F : Fun K x qual st f fd) (S : FnScope N ps (defScope st)) (len : ∀ vs H Q E, sp vs H Q E → vs.length = ps.length)
    (hbody : ∀ (cdv : Value) (A : Around) (outer : List Env) (s : Shared) (H : Hp) (vs : List V) (Q : VK) (E : XK), Room k (A.deeper (envOfC qual (defScope st) s.heap.objs.size f cdv)) → A.guards = some [] → sp vs H Q E →
      ∃ t, PSs (cxOf CX0 P w K mg base N qual (defScope st) f cdv A outer s H E).nox (defBody st) t ∧ t { nx := fun _ H' => Q .non H', rt := Q } (L2.start N vs) H) : FnG P w K mg base (k + 1) f fd ps sp := by
  obtain ⟨oc, od, kV, doc, pm, an, cdv, ct, osl, rfl, lk, hcd⟩ := F.ex
  refine ⟨len, fun A outer s H args us vs Q E hr hg he hb hv hs => ?_⟩
  refine LamX.run_ofS lk hcd S hr he hb hv (len vs H Q E hs) fun hr' => ?_
  obtain ⟨t, ht, q⟩ := hbody cdv A outer s H vs Q E hr' hg hs
  exact ⟨t, ht.nox, q⟩
theorem DefAt.calG {k : Nat} {x : Str} {st : Stmt} {ps : List Str} {sp : Sp} (D : DefAt K mg x st ps) (h : ∀ f fd, Fun K x x st f fd → FnG P w K mg base k f fd ps sp) : CalG P w K mg base k x ps sp := by
  obtain ⟨f, fd, F, b, g⟩ := D.ex
  exact ⟨f, fd, h f fd F, F.kp, b, g⟩
end
section
variable {X : Cx} {k j : Nat} {x : Str} {ps : List Str} {sp : Sp} {p pos : Pos} {e : Expr} {es : List Expr} {t : TA}
theorem pe_calG (C : CalG X.prog X.w X.K X.mg X.base k x ps sp) (hr : Room j X.A) (hgd : X.A.guards = some []) (ha : PA X (e :: es) t) (hkj : k ≤ j := by decide) (hg : Gl X x := by rfl) (hdb : (x == ("__debug__" : Str)) = false := by decide)
    (he : starEach (e :: es) X.env = (false, eval e X.env) :: starEach es X.env := by rfl) (hpl : (backTo pos (starEach es X.env)).any (·.1) = false := by rfl) :
    PE X (.Call (.Name x p) (e :: es) [] pos) (tCall sp [] E0 t) := by
  obtain ⟨f, fd, F, kp, b, g⟩ := C.ex
  refine ⟨fun pins s σ H Q I h => ?_⟩
  refine wpAny_Call_Name_kw (ld_glob I hg g ?_ hdb)
  refine PySem.W.callWith_K (h₀ := X.base) I.ok.mod.kin kp (thn (ha.run pos pins s σ H _ I h) fun us s1 ⟨vs, H1, I1, r, q⟩ => ⟨I1.kIn, ?_⟩) he hpl
  show wpAny _ _ (call (.ref f) us) _ _ _
  have q' : sp vs H1 Q E0 := by
    have q0 : sp (vs ++ []) H1 Q E0 := q
    rw [List.append_nil] at q0
    exact q0
  have hl : (us ++ []).length = ps.length := by
    rw [List.append_nil, ← r.length]
    exact F.len _ _ _ _ q'
  have hb := b s1 us I1.kIn hl
  rw [List.append_nil] at hb
  refine wpAny_call (codeAny_mono (F.run X.A X.stack s1 H1 ⟨us, []⟩ us vs Q E0 (hr.mono hkj) hgd I1.env0 hb r q') fun r' s' hq => ?_)
  cases r' with
  | error e => exact (show False from hq).elim
  | ok fl =>
    cases fl with
    | ret u => exact I1.after hq
    | next => exact False.elim hq
    | brk => exact False.elim hq
    | cont => exact False.elim hq
end
end Cs
set_option Elab.async false
set_option linter.all false
set_option maxRecDepth 100000
set_option maxHeartbeats 8000000
/-! what a lambda's making leaves; _law_asked -/
namespace Cs
open PySem PySem.Spec PyProof.Rows L2
theorem extn_rd {H H' : Hp} (e : LamX.ExtN H H') {a : Addr} {u : HO} (h : Rd H a u) (hn : ∀ ps, u ≠ .tbl ps) : Rd H' a u := by
  rcases h with h | ⟨o, h⟩
  · exact .inl (e _ _ h hn)
  · exact .inr ⟨o, e _ _ h (fun ps z => by cases z)⟩
theorem extn_seq {K : PySem.W.Frag} {H H' : Hp} (e : LamX.ExtN H H') {a : Addr} {xs : List V} (h : SqL K H a xs) : SqL K H' a xs := by
  rcases h with h | h
  · exact .inl (extn_rd e h (fun ps z => by cases z))
  · exact .inr h
theorem extn_tup {K : PySem.W.Frag} {H H' : Hp} (e : LamX.ExtN H H') {a : Addr} {xs : List V} (h : SqT K H a xs) : SqT K H' a xs := by
  rcases h with h | h
  · exact .inl (extn_rd e h (fun ps z => by cases z))
  · exact .inr h
mutual
theorem dp_extn {K : PySem.W.Frag} {H H' : Hp} (s : LamX.ExtN H H') : ∀ (d : PyData) (v : V), Dp K H v d → Dp K H' v d
  | .none, _, h => by
    cases h
    exact .non
  | .bool b, _, h => by
    cases h
    exact .bl b
  | .int i, _, h => by
    cases h
    exact .int i
  | .str x, _, h => by
    cases h
    exact .str x
  | .list ds, _, h => by
    cases h with
    | lst hs ha => exact .lst (extn_seq s hs) (dps_extn s ds _ ha)
  | .tuple ds, _, h => by
    cases h with
    | tup hs ha => exact .tup (extn_tup s hs) (dps_extn s ds _ ha)
  | .dict _, _, h => by cases h
theorem dps_extn {K : PySem.W.Frag} {H H' : Hp} (s : LamX.ExtN H H') : ∀ (ds : List PyData) (vs : List V), DpAll K H vs ds → DpAll K H' vs ds
  | [], _, h => by
    cases h
    exact .nil
  | d :: ds, _, h => by
    cases h with
    | cons h1 h2 => exact .cons (dp_extn s d _ h1) (dps_extn s ds _ h2)
end
theorem extn_cut {X : List Addr} {H H' : Hp} (e : LamX.ExtN H H') : LamX.ExtN (cutH X H) (cutH X H') := fun b o h n => by
  obtain ⟨h1, h2⟩ := cut_at h
  exact cut_mk (e b o h1 n) h2
theorem extn_xin {X : List Addr} {H H' : Hp} (e : LamX.ExtN H H') (x : Xin X H) : Xin X H' := fun b hb => by
  obtain ⟨xs, h⟩ := x b hb
  exact ⟨xs, e _ _ h (fun ps z => by cases z)⟩
theorem extn_mug {H H' : Hp} {a : Addr} (e : LamX.ExtN H H') (m : MugAt H a) : MugAt H' a := by
  obtain ⟨x, y, z, h, r⟩ := m
  exact ⟨x, y, z, e _ _ h (fun ps z => by cases z), r⟩
theorem extn_fr {K : PySem.W.Frag} {H H' : Hp} {v : V} {q : Rat} (e : LamX.ExtN H H') (h : Fr K H v q) : Fr K H' v q := by
  obtain ⟨a, rfl, hs⟩ := h
  exact ⟨a, rfl, extn_tup e hs⟩
theorem extn_tab {K : PySem.W.Frag} {C : Addr} {X : List Addr} {H H' : Hp} {v : V} {hs : List Str} {ls : Lines} (e : LamX.ExtN H H') (h : TabAt K C X H v hs ls) : TabAt K C X H' v hs ls := by
  obtain ⟨a, dx, x, l, ev, ha, hx, hl⟩ := h
  exact ⟨a, dx, x, l, ev, e _ _ ha (fun ps z => by cases z), dp_extn (extn_cut e) _ _ hx, dp_extn (extn_cut e) _ _ hl⟩
/-- what the worst price is: None, or the dearest corner's -/
def WorstV (K : PySem.W.Frag) (H : Hp) (v : V) (ls : Lines) (aim : Aim) (n : Nat) (fees : List Int) : Prop := (v = .non ∧ NoCorner ls aim n fees) ∨ ∃ q, Fr K H v q ∧ TopCorner ls aim n fees q
/-- asked: try: return a() / except x: return None -/
def TNone (K : PySem.W.Frag) (CS : Addr) : (XK → Hp → VK → Prop) → Hp → VK → Prop := fun tl H Q =>
  tl (fun cls _ H' => ∃ b, PySem.W.exmOne K cls (.ref CS) = some b ∧ (b = true → Q .non H') ∧ (b = false → False)) H Q
theorem asked_gives {X : Cx} {Ng : List Str} {x a e q : Str} {sg : Scope} {g CS : Addr} {cdg : Value} {j : Nat} {p1 p2 p3 p4 p5 p6 p7 p8 : Pos} (hge : sg.names.lookup e = some .globalImplicit) (hme : X.mg e = some (.ref CS)) (hde : (e == ("__debug__" : Str)) = false) (h0 : ∀ f : Addr, (L2.start Ng [V.ref f])[0]? = some (some (V.ref f))) :
    LamX.GivesTo X Ng x sg g cdg [.Try [.Return (some (.Call (.Name a p1) [] [] p2)) p3] [.ExceptHandler (some (.Name e p4)) none [.Return (some (.Constant .none j p5)) p6] p7] [] [] p8] a q (TNone X.K CS) := by
  intro f c' s H Q tl act hc h
  have hgl : Gl (cxOf CX0 X.prog X.w X.K X.mg X.base Ng x sg g cdg X.A X.stack s H E0).nox e := hge
  refine ⟨_, pss_one (ps_try_only (X := (cxOf CX0 X.prog X.w X.K X.mg X.base Ng x sg g cdg X.A X.stack s H E0).nox) (c := .ref CS)
      (tb := fun W D σ H => ∃ Ech : XK, (∀ cls d σ' H', Ech cls d H' → W cls d σ' H') ∧ σ[0]? = some (some (.ref f)) ∧ H c' = some (LamX.CodeO c' q) ∧ tl Ech H D.rt)
      rfl rfl ⟨hgl, hde, .inl hme⟩ LamX.takes0 (fun W pn xe tk _ => ?_) (fun a oe cls d pn _ _ => pss_one (ps_ret pe_non))), ?_⟩
  · refine ⟨fun pins s' σ H' D I h' => ?_⟩
    obtain ⟨Ech, hW, h1, h2, h3⟩ := h'
    have hp := act W pn xe Ech p1 p2 tk hW
    have hq := pss_one (ps_ret (pos := p3) hp)
    exact hq.run pins s' σ H' D I ⟨h1, h2, h3⟩
  · exact ⟨fun cls _ H' => ∃ b, PySem.W.exmOne X.K cls (.ref CS) = some b ∧ (b = true → Q .non H') ∧ (b = false → False), fun cls d σ' H' ⟨b, e1, e2, e3⟩ => ⟨b, e1, fun hb a _ => e2 hb, fun hb => e3 hb⟩, h0 f, hc, h⟩
end Cs
set_option Elab.async false
set_option linter.all false
set_option maxRecDepth 100000
set_option maxHeartbeats 8000000
/-! calls by keywords alone -/
namespace Cs
open PySem PySem.Spec PyProof.Rows L2
section
variable {X : Cx} {CX : CXT} {k j : Nat} {f : Addr} {fd : FuncData} {ps ks : List Str} {sp : Sp} {E : XK} {x : Str} {p pos : Pos} {kws : List Keyword} {tk : TA} {g : List Value → List Value → List Value} {gV : List V → List V → List V}
theorem pe_callK0 (F : FnOk X.prog X.w X.K X.mg X.base CX k f fd ps sp) (hr : Room k X.A) (hg : Gl X x) (hm : X.mg x = some (.ref f)) (hk : PySem.W.keepIn X.K (.ref f) = true) (hb : KBinds X.K fd ps ks g gV) (hx : Passes CX X E) (hkw : PK X kws tk)
    (hall : (backToKw pos (keywordEach kws X.env)).all (·.1.isSome) = true := by rfl) (hks : (backToKw pos (keywordEach kws X.env)).filterMap (·.1) = ks := by rfl) (hdb : (x == ("__debug__" : Str)) = false := by decide)
    (hpl : ((backTo pos (starEach [] X.env)).any (·.1) || (backToKw pos (keywordEach kws X.env)).any (·.1.isNone)) = false := by rfl) :
    PE X (.Call (.Name x p) [] kws pos) (tCallK sp gV E tNil tk) := by
  refine ⟨fun pins s σ H Q I h => ?_⟩
  refine wpAny_Call_Name_kw (ld_glob I hg hm ?_ hdb)
  refine PySem.W.callWith_KW0 (h₀ := X.base) I.ok.mod.kin hk hall ?_ hpl
  refine thn (hkw.run pos pins s σ H _ I h) fun ws s2 ⟨zs, H2, I2, rz, q2⟩ => ⟨I2.kIn, ?_⟩
  rw [hks]
  exact run_fnk (us := []) (vs := []) F hr hb hx I2 .nil rz q2
end
/-- table, target, prices out of the keywords prices, target, table -/
def gBack : List Value → List Value → List Value
  | [], [p, t, b] => [b, t, p]
  | _, _ => []
def gBackV : List V → List V → List V
  | [], [p, t, b] => [b, t, p]
  | _, _ => []
theorem gBack_rel {vs : List V} {us : List Value} {zs : List V} {ws : List Value} (r : Vals vs us) (r2 : Vals zs ws) : Vals (gBackV vs zs) (gBack us ws) := by
  cases r with
  | cons _ _ => exact .nil
  | nil =>
    cases r2 with
    | nil => exact .nil
    | cons a r3 =>
      cases r3 with
      | nil => exact .nil
      | cons b r4 =>
        cases r4 with
        | nil => exact .nil
        | cons c r5 =>
          cases r5 with
          | nil => exact .cons c (.cons b (.cons a .nil))
          | cons _ _ => exact .nil
abbrev psTTP : List Str := ["table", "target", "prices"]
abbrev ksPTT : List Str := ["prices", "target", "table"]
/-- a def of the top that is called by keywords too -/
structure CalK (P : Program) (w : World) (K : PySem.W.Frag) (mg : Str → Option Value) (base : Heap) (k : Nat) (x : Str) (sp : Sp) : Prop where
  ex : ∃ f fd, FnOk P w K mg base CX0 k f fd psTTP sp ∧ PySem.W.keepIn K (.ref f) = true ∧ KBinds K fd psTTP ksPTT gBack gBackV ∧ mg x = some (.ref f)
/-- how the keywords bind -/
def KwAt (x : Str) (st : Stmt) : Prop := ∀ (kV doc pm : Value) (an : Option Addr) (cdv ct p t b : Value), bindArgs (PySem.W.fnOf x x (defArgs st) (defBody st) (defScope st) .none kV doc pm an cdv ct) ⟨[], ksPTT.zip [p, t, b]⟩ = pure (psTTP.zip [b, t, p])
theorem kb_of {K : PySem.W.Frag} {x : Str} {st : Stmt} {f : Addr} {fd : FuncData} (F : Fun K x x st f fd) (h : KwAt x st) : KBinds K fd psTTP ksPTT gBack gBackV := by
  obtain ⟨oc, od, kV, doc, pm, an, cdv, ct, osl, rfl, lk, hcd⟩ := F.ex
  refine ⟨fun s us ws _ hl => ?_, gBack_rel⟩
  match us, ws, hl with
  | [], [p, t, b], _ =>
    exact .of_eq (h kV doc pm an cdv ct p t b)
  | _ :: _, _, hl => exact absurd hl (by simp [gBack])
  | [], [], hl => exact absurd hl (by simp [gBack])
  | [], [_], hl => exact absurd hl (by simp [gBack])
  | [], [_, _], hl => exact absurd hl (by simp [gBack])
  | [], _ :: _ :: _ :: _ :: _, hl => exact absurd hl (by simp [gBack])
theorem kw_best : KwAt "best_price" sBest := fun _ _ _ _ _ _ _ _ _ => rfl
theorem kw_sure : KwAt "sure_price" sSurePrice := fun _ _ _ _ _ _ _ _ _ => rfl
/-- the promise of a def, kept by keywords too -/
theorem CalK.of {P : Program} {w : World} {K : PySem.W.Frag} {mg : Str → Option Value} {base : Heap} {k : Nat} {x : Str} {st : Stmt} {sp : Sp} (D : DefAt K mg x st psTTP) (h : KwAt x st) (hf : ∀ f fd, Fun K x x st f fd → FnOk P w K mg base CX0 k f fd psTTP sp) : CalK P w K mg base k x sp := by
  obtain ⟨f, fd, F, b, g⟩ := D.ex
  exact ⟨f, fd, hf f fd F, F.kp, kb_of F h, g⟩
section
variable {X : Cx} {k j : Nat} {x : Str} {sp : Sp} {p pos : Pos} {kws : List Keyword} {tk : TA}
theorem pe_calK (C : CalK X.prog X.w X.K X.mg X.base k x sp) (hr : Room j X.A) (hkw : PK X kws tk) (hkj : k ≤ j := by decide) (hg : Gl X x := by rfl)
    (hall : (backToKw pos (keywordEach kws X.env)).all (·.1.isSome) = true := by rfl) (hks : (backToKw pos (keywordEach kws X.env)).filterMap (·.1) = ksPTT := by rfl) (hdb : (x == ("__debug__" : Str)) = false := by decide)
    (hpl : ((backTo pos (starEach [] X.env)).any (·.1) || (backToKw pos (keywordEach kws X.env)).any (·.1.isNone)) = false := by rfl) :
    PE X (.Call (.Name x p) [] kws pos) (tCallK sp gBackV E0 tNil tk) := by
  obtain ⟨f, fd, F, kp, kb, g⟩ := C.ex
  exact pe_callK0 F (hr.mono hkj) hg g kp kb (fun _ _ _ _ _ _ _ h => h.elim) hkw hall hks hdb hpl
end
end Cs
set_option Elab.async false
set_option linter.all false
set_option maxRecDepth 100000
set_option maxHeartbeats 8000000
/-! before the case: prices as data, what draws keep, the question asked -/
namespace Cs
open PySem PySem.Spec PyProof.Rows L2
/-! ### a price or None, as data -/
def dO : Option Rat → PyData
  | none => .none
  | some q => fr q
def LeastIs (costs : List Rat) : Option Rat → Prop
  | none => costs = []
  | some q => q ∈ costs ∧ ∀ r ∈ costs, q ≤ r
theorem LeastIs.uniq {costs : List Rat} : ∀ {a b : Option Rat}, LeastIs costs a → LeastIs costs b → a = b
  | none, none, _, _ => rfl
  | none, some q, h, h' => by
    have h : costs = [] := h
    have := h'.1
    rw [h] at this
    cases this
  | some q, none, h', h => by
    have h : costs = [] := h
    have := h'.1
    rw [h] at this
    cases this
  | some p, some q, h, h' => by
    have h1 := h.2 q h'.1
    have h2 := h'.2 p h.1
    have e : p = q := by grind
    rw [e]
theorem leastIs_of {o : Option (List Rat × Rat)} {costs : List Rat} (h : Agree o costs) : LeastIs costs (o.map Prod.snd) := by
  cases o with
  | none => exact h
  | some r =>
    obtain ⟨x, q⟩ := r
    exact h
section
variable {K : PySem.W.Frag} {H H' : Hp} {v : V}
theorem leastV_at {costs : List Rat} (h : LeastV K H v costs) : ∃ o, Dp K H v (dO o) ∧ LeastIs costs o := by
  rcases h with ⟨h1, rfl⟩ | ⟨q, h1, h2, h3⟩
  · exact ⟨none, .non, h1⟩
  · exact ⟨some q, h1.dp, h2, h3⟩
theorem costAt_at {o : Option (List Rat × Rat)} (h : CostAt K H v o) : Dp K H v (dO (o.map Prod.snd)) := by
  cases o with
  | none =>
    have h : v = .non := h
    subst h
    exact .non
  | some r =>
    obtain ⟨x, q⟩ := r
    exact Fr.dp h
theorem dO_none (h : Dp K H v (dO none)) : v = .non := by
  cases h
  rfl
theorem dO_some {q : Rat} (h : Dp K H v (dO (some q))) : Fr K H v q := Fr.of h
/-- whether it is None -/
theorem dO_isNone : ∀ {o : Option Rat}, Dp K H v (dO o) → (decide (v = .non) = o.isNone)
  | none, h => by
    rw [dO_none h]
    rfl
  | some q, h => by
    obtain ⟨a, rfl, _⟩ := Fr.of h
    exact decide_eq_false (fun z => by cases z)
theorem dO_cut {X : List Addr} (x : Xin X H) : ∀ {o : Option Rat}, Dp K H v (dO o) → Dp K (cutH X H) v (dO o)
  | none, h => by
    rw [dO_none h]
    exact .non
  | some q, h => (Fr.cut (Fr.of h) x).dp
end
/-- a list changed beneath a price -/
theorem dO_mut {K : PySem.W.Frag} {H : Hp} {v : V} {L : Addr} {xs : List V} {u : HO} (e : H L = some (.lst xs)) {o : Option Rat} (h : Dp K H v (dO o)) : Dp K (upd H L u) v (dO o) := by
  have k := dO_cut (X := [L]) (Xin.nil.cons e) h
  rw [← cut_in (H := H) (p := L) (o := u) List.mem_cons_self] at k
  exact k.same cut_same
/-- a list that came since, changed -/
theorem same_mut {H H' : Hp} {L : Addr} {u : HO} (h : Same H H') (n : H L = none) : Same H (upd H' L u) := fun b o e => by
  rw [upd_ne (ne_of_none e n)]
  exact h _ _ e
theorem flat_o : ∀ o : Option Rat, Flat 1 (dO o)
  | none => ⟨rfl, Nat.zero_le _⟩
  | some q => flat_fr q
theorem flat_os (os : List (Option Rat)) : Flat 2 (.list (os.map dO)) := flat_list fun d hd => by
  obtain ⟨o, _, rfl⟩ := List.mem_map.mp hd
  exact flat_o o
theorem eqv_o : ∀ o : Option Rat, PyData.eqv (dO o) (dO o) = true
  | none => rfl
  | some q => by
    show PyData.eqv (.tuple [.int q.num, .int q.den]) (.tuple [.int q.num, .int q.den]) = true
    simp [PyData.eqv, PyData.eqvAll]
theorem eqv_os : ∀ os : List (Option Rat), PyData.eqvAll (os.map dO) (os.map dO) = true
  | [] => rfl
  | o :: os => by
    show PyData.eqvAll (dO o :: os.map dO) (dO o :: os.map dO) = true
    rw [PyData.eqvAll, eqv_o o, eqv_os os]
    rfl
theorem eqv_list (os : List (Option Rat)) : PyData.eqv (.list (os.map dO)) (.list (os.map dO)) = true := by
  rw [PyData.eqv]
  exact eqv_os os
/-! ### how it is shown -/
def OSz (n : Nat) : Option Rat → Prop
  | none => True
  | some q => Sz n q
theorem log_lt {n : Nat} (h : n < 2 ^ 400) : n.log2 < 400 := by
  by_cases hn : n = 0
  · subst hn
    decide
  · exact (Nat.log2_lt hn).mpr h
theorem shown_num {i : Int} (h : i.natAbs < 2 ^ 400) : PyData.showable (.int i) = true ∧ PyData.leavesShort 402 (.int i) = true ∧ PyData.weight (.int i) ≤ 400 := by
  have hl := log_lt h
  refine ⟨?_, ?_, ?_⟩
  · show decide (i.natAbs.log2 < 1920) = true
    exact decide_eq_true (by omega)
  · show decide ((PyData.shown (.int i)).length ≤ 402) = true
    refine decide_eq_true ?_
    show (Str.ofString (toString i)).length ≤ 402
    rw [PySem.ofString_length]
    have := int_text_length_le (k := 400) (by decide) hl
    omega
  · show (if i == 0 then 0 else i.natAbs.log2 + 1) ≤ 400
    split <;> omega
theorem shown_o : ∀ {o : Option Rat}, OSz 400 o → PyData.showable (dO o) = true ∧ PyData.leavesShort 402 (dO o) = true ∧ PyData.weight (dO o) ≤ 802
  | none, _ => ⟨rfl, rfl, Nat.zero_le _⟩
  | some q, h => by
    obtain ⟨a1, a2, a3⟩ := shown_num (i := q.num) h.1
    obtain ⟨b1, b2, b3⟩ := shown_num (i := (q.den : Int)) (by show ((q.den : Int)).natAbs < _; rw [Int.natAbs_natCast]; exact h.2)
    refine ⟨?_, ?_, ?_⟩
    · show PyData.showable (.tuple [.int q.num, .int q.den]) = true
      rw [PyData.showable, PyData.showableAll, PyData.showableAll, PyData.showableAll, a1, b1]
      rfl
    · show PyData.leavesShort 402 (.tuple [.int q.num, .int q.den]) = true
      rw [PyData.leavesShort, PyData.leavesShortAll, PyData.leavesShortAll, PyData.leavesShortAll, a2, b2]
      rfl
    · show PyData.weight (.tuple [.int q.num, .int q.den]) ≤ 802
      rw [PyData.weight, PyData.weightAll, PyData.weightAll, PyData.weightAll]
      omega
theorem shown_all : ∀ {os : List (Option Rat)}, (∀ o ∈ os, OSz 400 o) → PyData.showableAll (os.map dO) = true ∧ PyData.leavesShortAll 402 (os.map dO) = true ∧ PyData.weightAll (os.map dO) ≤ 803 * os.length
  | [], _ => ⟨rfl, rfl, Nat.le_refl _⟩
  | o :: os, h => by
    obtain ⟨a1, a2, a3⟩ := shown_o (h o List.mem_cons_self)
    obtain ⟨b1, b2, b3⟩ := shown_all fun o' ho => h o' (List.mem_cons_of_mem _ ho)
    refine ⟨?_, ?_, ?_⟩
    · show PyData.showableAll (dO o :: os.map dO) = true
      rw [PyData.showableAll, a1, b1]
      rfl
    · show PyData.leavesShortAll 402 (dO o :: os.map dO) = true
      rw [PyData.leavesShortAll, a2, b2]
      rfl
    · show PyData.weightAll (dO o :: os.map dO) ≤ _
      rw [PyData.weightAll, List.length_cons]
      omega
theorem shown_os {os : List (Option Rat)} (hl : os.length ≤ 4) (h : ∀ o ∈ os, OSz 400 o) : (PyData.list (os.map dO)).showable = true ∧ (PyData.list (os.map dO)).depth ≤ 60 ∧ (PyData.list (os.map dO)).shown.length ≤ sizeLine := by
  obtain ⟨a1, a2, a3⟩ := shown_all h
  have a4 : (PyData.list (os.map dO)).leavesShort 402 = true := by
    rw [PyData.leavesShort]
    exact a2
  have a5 : (PyData.list (os.map dO)).weight ≤ 803 * os.length := by
    rw [PyData.weight]
    exact a3
  refine ⟨?_, Nat.le_trans (flat_os os).2 (by decide), ?_⟩
  · rw [PyData.showable]
    exact a1
  · have := PyData.shown_le 402 (by decide) _ a4
    have e : sizeLine = 16777216 := by decide
    rw [e]
    have : 404 * (PyData.list (os.map dO)).weight ≤ 404 * 3212 := Nat.mul_le_mul_left _ (by omega)
    omega
/-! ### what draws keep -/
section
variable {K : PySem.W.Frag} {H H' : Hp} {a : Addr} {X : List Addr} {v : V}
theorem Draw.tab {C : Addr} {hs : List Str} {ls : Lines} (d : Draw a H H') (hm : MugAt H a) (ha : a ∈ X) (h : TabAt K C X H v hs ls) : TabAt K C X H' v hs ls := by
  obtain ⟨t, dx, x, l, rfl, ht, hx, hl⟩ := h
  refine ⟨t, dx, x, l, rfl, d.1 _ _ ht (fun z => ?_), hx.same (d.cut ha), hl.same (d.cut ha)⟩
  obtain ⟨_, _, _, e, _⟩ := hm
  rw [← z, ht] at e
  cases e
theorem Draw.tabs {T : List (Addr × Str)} (d : Draw a H H') (hm : MugAt H a) (h : LamX.Tabs T H) : LamX.Tabs T H' := fun p hp => by
  obtain ⟨e0, s0, c0, em, _⟩ := hm
  obtain ⟨ps, h1, h2, h3⟩ := h p hp
  refine ⟨ps, d.1 _ _ h1 (fun z => ?_), h2, fun pos cv hc => ?_⟩
  · rw [z, em] at h1
    cases h1
  · obtain ⟨c, e1, e2⟩ := h3 pos cv hc
    refine ⟨c, e1, d.1 _ _ e2 (fun z => ?_)⟩
    rw [z, em] at e2
    cases e2
theorem Draw.raw {ds : List PyData} (d : Draw a H H') (ha : a ∈ X) (h : RawL K X H v ds) : RawL K X H' v ds := by
  obtain ⟨t, xs, rfl, h1, h2, h3⟩ := h
  exact ⟨t, xs, rfl, d.1 _ _ h1 (fun z => h2 (by rw [z]; exact ha)), h2, h3.same (d.cut ha)⟩
end
/-! ### the question -/
theorem bodyD_ok {b : Body} {wide : Nat} (h : BodyD b b.length wide) (t3 : b.length ≤ 3) : BodyOk b wide := ⟨t3, h.wd, fun r hr p hp => by
  obtain ⟨o1, o2, o3⟩ := h.sb r hr p hp
  exact ⟨by omega, o2, by omega⟩⟩
theorem st_of_bd {b : Body} {n : Nat} (ok : BodyOk b n) : ∀ r ∈ b, ∀ p ∈ r, StOk p := fun r hr p hp => by
  obtain ⟨o1, o2, o3⟩ := ok.bd r hr p hp
  exact ⟨by omega, o2, by omega⟩
theorem ask_of {b : Body} {aim : Aim} {hs : List Str} (ok : BodyOk b aim.length) (okh : HeadsOk hs) (lh : hs.length = aim.length) (t1 : 1 ≤ b.length) (w3 : aim.length ≤ 3) (ha : ∀ p ∈ aim, Bd p) : Ask hs (mLines b) aim := by
  have t3 := ok.t3
  have l6 : b.length ≤ 6 := by omega
  refine ⟨okh, by omega, by rw [mLines_len l6]; exact t3, mLines_ok t1 l6 (fun r hr => by rw [ok.wd r hr, lh]) (st_of_bd ok), lh.symm, fun l hl p hp => ?_, ha⟩
  have : l.2 ∈ b := by
    have := List.mem_map_of_mem (f := Prod.snd) hl
    rwa [mLines_snd l6] at this
  exact ok.bd _ this p hp
/-- its answers, the answer to best (near 0) or sure (near 1) told -/
theorem cheap_sz {n : Nat} {rows : List (List Rat × Rat)} {fees : List Int} {o : Option (List Rat × Rat)} (h : CheapOut n rows fees o) : OSz 400 (o.map Prod.snd) := by
  cases o with
  | none => trivial
  | some r =>
    obtain ⟨x, q⟩ := r
    exact h.2.2
theorem two_at {α : Type} {x y z : α} {i : Nat} (h : [x, y][i]? = some z) : z = x ∨ z = y := by
  have := List.mem_of_getElem? h
  simpa using this
/-- the rest once for several branches -/
theorem sharedW {Z : Prop} {P G : V → Hp → Prop} (mk : (∀ v H, P v H → G v H) → Z) (key : ∀ v H, P v H → G v H) : Z := mk key
theorem sharedU {Z G : Prop} (mk : G → Z) (key : G) : Z := mk key
theorem worst_at {K : PySem.W.Frag} {H : Hp} {v : V} {ls : Lines} {aim : Aim} {n : Nat} {fees : List Int} (h : WorstV K H v ls aim n fees) : ∃ o, Dp K H v (dO o) ∧ OSz 400 o ∧ (o = none → NoCorner ls aim n fees) ∧ ∀ q, o = some q → TopCorner ls aim n fees q := by
  rcases h with ⟨rfl, h⟩ | ⟨q, h1, h2⟩
  · exact ⟨none, .non, trivial, fun _ => h, fun q e => (Option.some_ne_none _ e.symm).elim⟩
  · refine ⟨some q, h1.dp, ?_, fun z => (Option.some_ne_none _ z).elim, fun q' e => Option.some.inj e ▸ h2⟩
    obtain ⟨⟨sg, _, x, hc⟩, _⟩ := h2
    exact hc.2.2
theorem extn_raw {K : PySem.W.Frag} {X : List Addr} {H H' : Hp} {v : V} {ds : List PyData} (e : LamX.ExtN H H') (h : RawL K X H v ds) : RawL K X H' v ds := by
  obtain ⟨t, xs, rfl, h1, h2, h3⟩ := h
  exact ⟨t, xs, rfl, e _ _ h1 (fun ps z => by cases z), h2, dps_extn (extn_cut e) _ _ h3⟩
/-- the worst price between the best and the sure one -/
theorem between {b : Body} {aim : Aim} {fees : List Int} {o1 o2 oM : Option Rat} {c1 c2 : Option (List Rat × Rat)} (R : Right b aim fees) (hc1 : CheapOut b.length (mBoth (mLines b) aim aim.length 0) fees c1) (hc2 : CheapOut b.length (mBoth (mLines b) aim aim.length 1) fees c2)
    (e1 : c1.map Prod.snd = o1) (e2 : c2.map Prod.snd = o2) (n : oM = none → NoCorner (mLines b) aim aim.length fees) (t : ∀ q, oM = some q → TopCorner (mLines b) aim aim.length fees q) : (∀ q, o2 = some q → ∃ m, oM = some m ∧ m ≤ q) ∧ ∀ m, oM = some m → ∃ q, o1 = some q ∧ q ≤ m := by
  constructor
  · intro q eq
    rw [eq] at e2
    cases c2 with
    | none => exact (Option.some_ne_none _ e2.symm).elim
    | some r =>
      obtain ⟨x, q0⟩ := r
      have : q0 = q := Option.some.inj e2
      subst this
      obtain ⟨u1, u2⟩ := R.upper x q0 hc2
      cases oM with
      | none => exact (u1 (n rfl)).elim
      | some m => exact ⟨m, rfl, u2 m (t m rfl)⟩
  · intro m em
    obtain ⟨x, q, e, le⟩ := R.lower c1 m hc1 (t m em)
    rw [e] at e1
    exact ⟨q, e1.symm, le⟩
theorem fix_least {b : Body} {aim : Aim} {fees : List Int} {oW : Option Rat} (R : Right b aim fees) (n : oW = none → NoCorner (mLines (fixB b)) aim aim.length fees) (t : ∀ q, oW = some q → TopCorner (mLines (fixB b)) aim aim.length fees q) : LeastIs (costsOf b fees (mSure (fixB b) aim)) oW := by
  cases oW with
  | none => exact R.fnone (n rfl)
  | some q => exact R.ftop q (t q rfl)
theorem tabs_mut {T : List (Addr × Str)} {H : Hp} {Z : Addr} {xs : List V} {u : HO} (e : H Z = some (.lst xs)) (h : LamX.Tabs T H) : LamX.Tabs T (upd H Z u) := fun p hp => by
  obtain ⟨ps, h1, h2, h3⟩ := h p hp
  refine ⟨ps, by rw [upd_ne (fun z => by rw [z, e] at h1; cases h1)]; exact h1, h2, fun pos cv hc => ?_⟩
  obtain ⟨c, e1, e2⟩ := h3 pos cv hc
  exact ⟨c, e1, by rw [upd_ne (fun z => by rw [z, e] at e2; cases e2)]; exact e2⟩
/-- all but the mug at a and the tables stay -/
def Kept (a : Addr) (H H' : Hp) : Prop := ∀ b o, H b = some o → b ≠ a → (∀ ps, o ≠ .tbl ps) → H' b = some o
theorem Kept.trans {a : Addr} {H H1 H2 : Hp} (h : Kept a H H1) (g : Kept a H1 H2) : Kept a H H2 := fun b o e n t => g b o (h b o e n t) n t
theorem kept_draw {a : Addr} {H H' : Hp} (d : Draw a H H') : Kept a H H' := fun b o e n _ => d.1 b o e n
theorem kept_same {a : Addr} {H H' : Hp} (s : Same H H') : Kept a H H' := fun b o e _ _ => s b o e
theorem kept_extn {a : Addr} {H H' : Hp} (s : LamX.ExtN H H') : Kept a H H' := fun b o e _ t => s b o e t
/-- a mix that is told, beside its price -/
structure Item (K : PySem.W.Frag) (X : List Addr) (H : Hp) (n : Nat) (fees : List Int) (wv fv : V) : Prop where
  ex : ∃ (p : Option (List Rat × Rat)) (o : Option Rat), PointAt K X H wv p ∧ Dp K H fv (dO o) ∧ OSz 400 o ∧ (p = none ↔ o = none) ∧ ∀ x q', p = some (x, q') → MixOk n x ∧ SzAll 400 x ∧ ∀ q, o = some q → q ≤ mWeighed x fees
theorem point_same {K : PySem.W.Frag} {X : List Addr} {H H' : Hp} {v : V} {p : Option (List Rat × Rat)} (h : PointAt K X H v p) (s : Same H H') : PointAt K X H' v p := by
  cases p with
  | none => exact h
  | some r =>
    obtain ⟨x, q⟩ := r
    exact Dp.same h (same_cut s)
theorem point_isNone {K : PySem.W.Frag} {X : List Addr} {H : Hp} {v : V} {p : Option (List Rat × Rat)} (h : PointAt K X H v p) : decide (v = .non) = p.isNone := by
  cases p with
  | none =>
    have h : v = .non := h
    subst h
    rfl
  | some r =>
    obtain ⟨x, q⟩ := r
    obtain ⟨a, xs, rfl, _⟩ := Dp.tuple h
    exact decide_eq_false (fun z => by cases z)
theorem Item.same {K : PySem.W.Frag} {X : List Addr} {H H' : Hp} {n : Nat} {fees : List Int} {wv fv : V} (h : Item K X H n fees wv fv) (s : Same H H') : Item K X H' n fees wv fv := by
  obtain ⟨p, o, h1, h2, h3⟩ := h.ex
  exact ⟨p, o, point_same h1 s, h2.same s, h3⟩
theorem item_of {K : PySem.W.Frag} {X : List Addr} {H : Hp} {b : Body} {aim : Aim} {fees : List Int} {wv fv : V} {c p : Option (List Rat × Rat)} {o : Option Rat} {near : Nat} (R : Right b aim fees) (hn : near < 2) (hc : CheapOut b.length (mBoth (mLines b) aim aim.length near) fees c)
    (hp : CheapOut b.length (mBoth (mLines b) aim aim.length near) (zeros b.length) p) (e : c.map Prod.snd = o) (hw : PointAt K X H wv p) (hf : Dp K H fv (dO o)) (hz : OSz 400 o) : Item K X H b.length fees wv fv := by
  obtain ⟨h1, h2⟩ := R.mix near c p hn hc hp
  refine ⟨p, o, hw, hf, hz, h1.trans ?_, fun x q' e' => ?_⟩
  · cases c with
    | none => exact ⟨fun _ => e.symm, fun _ => rfl⟩
    | some r => exact ⟨fun z => (Option.some_ne_none _ z).elim, fun z => by rw [z] at e; exact (Option.some_ne_none _ e).elim⟩
  · obtain ⟨m, l⟩ := h2 x q' e'
    refine ⟨m, ?_, fun q eq => ?_⟩
    · rw [e'] at hp
      exact hp.2.1
    · rw [eq] at e
      cases c with
      | none => exact (Option.some_ne_none _ e.symm).elim
      | some r =>
        obtain ⟨x0, q0⟩ := r
        have : q0 = q := Option.some.inj e
        subst this
        exact l x0 q0 rfl
end Cs
set_option Elab.async false
set_option linter.all false
set_option maxRecDepth 100000
set_option maxHeartbeats 40000000
/-! one case of the law -/
namespace Cs
open PySem PySem.Spec PyProof.Rows L2
section
variable {P : Program} {w : World} {K : PySem.W.Frag} {mg : Str → Option Value} {base : Heap}
abbrev sCase : Stmt := topS 116
abbrev nCase : List Str := ["_law_mug_here", "_law_body_here", "_law_aim_here", "_law_mine", "_law_tall", "_law_fees", "_law_due", "_law_told", "_law_blend", "_law_fee", "_law_middle", "_law_fixed", "_law_plain", "_law_all_three", "_law_lap", "_law_each", "_law_pair"]
theorem scCase : FnScope nCase ["_law_mug_here", "_law_body_here", "_law_aim_here"] (defScope sCase) := ⟨rfl, rfl, rfl, by decide +kernel, rfl, by decide +kernel, by decide +kernel⟩
/-- the defs that the case calls -/
structure Defs (P : Program) (w : World) (K : PySem.W.Frag) (mg : Str → Option Value) (base : Heap) (CT CO CN : Addr) : Prop where
  bn : Bn mg
  heads : Cal P w K mg base 2 "_law_heads" ["_law_mug_here", "_law_wide"] (spLHeads K)
  table : Cal P w K mg base 9 "_law_table" ["_law_heads_here", "_law_body_here"] (spLTab K CT)
  of : Cal P w K mg base 2 "_law_of" ["_law_mug_here", "_law_things"] (spLOf K)
  cheap : Cal P w K mg base 4 "_law_cheapest" ["_law_tall", "_law_wants_here", "_law_fees"] (spLCheap K)
  some_ : Cal P w K mg base 3 "_law_some_wants" ["_law_body_here", "_law_aim_here"] (spLQ K mSome)
  sure_ : Cal P w K mg base 3 "_law_sure_wants" ["_law_body_here", "_law_aim_here"] (spLQ K mSure)
  best : Cal P w K mg base 10 "best_price" ["table", "target", "prices"] (spPriced K CT 0)
  sure : Cal P w K mg base 10 "sure_price" ["table", "target", "prices"] (spPriced K CT 1)
  bestK : CalK P w K mg base 10 "best_price" (spPriced K CT 0)
  sureK : CalK P w K mg base 10 "sure_price" (spPriced K CT 1)
  pmix : Cal P w K mg base 10 "possible_mix" ["table", "target"] (spMixFor K CT 0)
  smix : Cal P w K mg base 10 "sure_mix" ["table", "target"] (spMixFor K CT 1)
  atMost : Cal P w K mg base 2 "_law_at_most" ["_law_one", "_law_two"] (spLMost K)
  price : Cal P w K mg base 7 "price_of" ["table", "prices", "mix"] (spPriceOf K CT)
  worst : CalX P w K mg base 12 "worst_price" ["table", "target", "prices"] (spWorst K CT CN)
  asked : DefAt K mg "_law_asked" (topS 115) ["_law_act_here"]
  ns : mg "NotServed" = some (.ref CN)
  exm : PySem.W.exmOne K (.ref CN) (.ref CN) = some true
  repr : mg "repr" = none
def lamQ : Str := "_law_case_right.<locals>.<lambda>"
def spCase (K : PySem.W.Frag) (Tb : Addr) : Sp := fun vs H Q _ => ∃ (X : List Addr) (a : Addr) (vb va : V) (b : Body) (aim : Aim) (wide : Nat), vs = [.ref a, vb, va] ∧ Xin X H ∧ a ∈ X ∧ MugAt H a ∧ LamX.Tabs [(Tb, lamQ)] H ∧ RawL K X H vb (b.map fun r => .list (r.map dSt)) ∧ Dp K (cutH X H) va (dAim aim) ∧
  BodyD b b.length wide ∧ 1 ≤ b.length ∧ b.length ≤ 3 ∧ 1 ≤ wide ∧ wide ≤ 3 ∧ aim.length = wide ∧ (∀ p ∈ aim, Bd p) ∧ (∀ fees : List Int, fees.length = b.length → FeesOk fees → Right b aim fees) ∧ ∀ H', LamX.Tabs [(Tb, lamQ)] H' → Kept a H H' → Q (.bl true) H'
/-- the scope of the comprehension that makes the fixed body -/
def fixSc : Scope := match (defBody sCase).getD 11 (.Pass ⟨0, 0, 0, 0⟩) with
  | .Assign _ (.ListComp _ _ sc _) _ => sc
  | _ => defScope sCase
theorem scAsked : FnScope ["_law_act_here"] ["_law_act_here"] (defScope (topS 115)) := ⟨rfl, rfl, rfl, by decide +kernel, rfl, by decide +kernel, by decide +kernel⟩
/-- the def of the case, its code object known -/
structure CaseAt (K : PySem.W.Frag) (mg : Str → Option Value) (c : Addr) : Prop where
  ex : ∃ (f : Addr) (oc : Value) (od an : Option Addr) (osl : Array (Option Value)) (kV doc pm ct : Value), K.lookup f = some ⟨oc, od, .func (PySem.W.fnOf "_law_case_right" "_law_case_right" (defArgs sCase) (defBody sCase) (defScope sCase) .none kV doc pm an (.ref c) ct), osl⟩ ∧ PySem.W.codeIn K (.ref c) "_law_case_right" = true ∧
    PySem.W.keepIn K (.ref f) = true ∧ Binds K (PySem.W.fnOf "_law_case_right" "_law_case_right" (defArgs sCase) (defBody sCase) (defScope sCase) .none kV doc pm an (.ref c) ct) ["_law_mug_here", "_law_body_here", "_law_aim_here"] [] ∧ mg "_law_case_right" = some (.ref f)
theorem CaseAt.calG {c : Addr} {k : Nat} {sp : Sp} (D : CaseAt K mg c) (len : ∀ vs H Q E, sp vs H Q E → vs.length = 3)
    (hbody : ∀ (f : Addr) (A : Around) (outer : List Env) (s : Shared) (H : Hp) (vs : List V) (Q : VK) (E : XK), Room k (A.deeper (envOfC "_law_case_right" (defScope sCase) s.heap.objs.size f (.ref c))) → A.guards = some [] → sp vs H Q E →
      ∃ t, PSs (cxOf CX0 P w K mg base nCase "_law_case_right" (defScope sCase) f (.ref c) A outer s H E).nox (defBody sCase) t ∧ t { nx := fun _ H' => Q .non H', rt := Q } (L2.start nCase vs) H) : CalG P w K mg base (k + 1) "_law_case_right" ["_law_mug_here", "_law_body_here", "_law_aim_here"] sp := by
  obtain ⟨f, oc, od, an, osl, kV, doc, pm, ct, lk, hcd, kp, b, g⟩ := D.ex
  refine ⟨f, _, ⟨len, fun A outer s H args us vs Q E hr hg he hb hv hs => ?_⟩, kp, b, g⟩
  refine LamX.run_ofS lk hcd scCase hr he hb hv (len vs H Q E hs) fun hr' => ?_
  obtain ⟨t, ht, q⟩ := hbody f A outer s H vs Q E hr' hg hs
  exact ⟨t, ht.nox, q⟩
theorem c_case {CT CO CN c Tb : Addr} (D : CaseAt K mg c) (M : Defs P w K mg base CT CO CN) (TB : LamX.TabB base mg c Tb) :
    CalG P w K mg base 15 "_law_case_right" ["_law_mug_here", "_law_body_here", "_law_aim_here"] (spCase K Tb) := by
  obtain ⟨fA, fdA, FA, bA, gA⟩ := M.asked.ex
  obtain ⟨ocA, odA, kVA, docA, pmA, anA, cdvA, ctA, oslA, rfl, lkA, cdA⟩ := FA.ex
  have kA := FA.kp
  refine D.calG (fun vs H Q E h => ?_) (fun f A outer s H vs Q E hr hgd h => ?_)
  · obtain ⟨X, a, vb, va, b, aim, wide, rfl, _⟩ := h
    rfl
  · obtain ⟨X, a, vb, va, b, aim, wide, rfl, hX, ha, hm, hTb, hb, hai, okb, t1, t3, w1, w3, lai, bai, right, q⟩ := h
    refine ⟨_, pss_cons (ps_asg (pe_tup (pa_cons (pe_cal M.table hr (pa_cons (pe_cal M.heads hr (pa_cons (pv 0) (pa_cons (pe_callB call_len_seq (by rfl) M.bn.len PySem.boot_len (pa_cons (pv 2) pa_nil)) pa_nil))) (pa_cons (pv 1) pa_nil))) (pa_cons (pe_callB call_len_seq (by rfl) M.bn.len PySem.boot_len (pa_cons (pv 1) pa_nil)) pa_nil)))
        (pg_tup rfl (pgs_cons (pg_name (i := 3) scCase.nd rfl (.inr rfl)) (pgs_cons (pg_name (i := 4) scCase.nd rfl (.inl rfl)) pgs_nil))))
      (pss_cons (ps_set (i := 5) scCase.nd rfl (.inr rfl) (pe_callTy (call_tupleK K) (by rfl) M.bn.tup (by decide +kernel) (pa_cons (pe_lc (own := [("_law_lap", 14)]) (g := gName 14) (tt := tYes) rfl scCase.nd (pi_range1 (by rfl) M.bn.range (pa_cons (pv 4) pa_nil)) (blkOk_by (own := [("_law_lap", 14)]) (N := nCase) (sc := defScope sCase) (by decide +kernel))
        (fun _ _ _ _ _ => pg_name (i := 14) scCase.nd rfl (.inl rfl)) (fun _ _ _ _ _ => pts_nil) (fun _ _ _ _ _ => pe_cal M.of hr (pa_cons (pv 0) (pa_cons (pe_lst (pa_cons pe_int (pa_cons pe_int (pa_cons pe_int (pa_cons pe_int (pa_cons pe_int (pa_cons pe_int (pa_cons pe_int (pa_cons pe_int pa_nil))))))))) pa_nil)))) pa_nil)))
      (pss_cons (ps_set (i := 6) scCase.nd rfl (.inl rfl) (pe_lst (pa_cons (pe_cal M.cheap hr (pa_cons (pv 4) (pa_cons (pe_cal M.some_ hr (pa_cons (pv 1) (pa_cons (pv 2) pa_nil))) (pa_cons (pv 5) pa_nil)))) pa_nil)))
      (pss_cons (ps_expr (pe_bm PySem.F.plainAttrs_list PySem.F.slot_list_append PySem.F.type_list_append mt_append (pv 6) (pa_cons (pe_cal M.cheap hr (pa_cons (pv 4) (pa_cons (pe_cal M.sure_ hr (pa_cons (pv 1) (pa_cons (pv 2) pa_nil))) (pa_cons (pv 5) pa_nil)))) pa_nil)))
      (pss_cons (ps_set (i := 7) scCase.nd rfl (.inl rfl) (pe_lst (pa_cons (pe_cal M.best hr (pa_cons (pv 3) (pa_cons (pv 2) (pa_cons (pv 5) pa_nil)))) (pa_cons (pe_cal M.sure hr (pa_cons (pv 3) (pa_cons (pv 2) (pa_cons (pv 5) pa_nil)))) pa_nil))))
      (pss_cons (ps_set (i := 7) scCase.nd rfl (.inl rfl) (pe_op op_cat (pv 7) (pe_lst (pa_cons (pe_calK M.bestK hr (pk_cons (pv 5) (pk_cons (pv 2) (pk_cons (pv 3) pk_nil)))) (pa_cons (pe_calK M.sureK hr (pk_cons (pv 5) (pk_cons (pv 2) (pk_cons (pv 3) pk_nil)))) pa_nil)))))
      (pss_cons (ps_if (pt_cmpR op_ne (pe_callB (call_repr hgd hr.units) (by rfl) M.repr (by decide +kernel) (pa_cons (pv 7) pa_nil)) (pe_callB (call_repr hgd hr.units) (by rfl) M.repr (by decide +kernel) (pa_cons (pe_op op_rep (pv 6) pe_int) pa_nil)) (by rfl)) (pss_one (ps_ret pe_bl)) pss_nil)
      (pss_cons (ps_for PassesOwn.never rfl (pi_list (pe_lst (pa_cons (pe_tup (pa_cons (pe_cal M.pmix hr (pa_cons (pv 3) (pa_cons (pv 2) pa_nil))) (pa_cons (pe_ix (ix_lstK K) (pv 6) pe_int (fun _ _ => rfl)) pa_nil))) (pa_cons (pe_tup (pa_cons (pe_cal M.smix hr (pa_cons (pv 3) (pa_cons (pv 2) pa_nil))) (pa_cons (pe_ix (ix_lstK K) (pv 6) pe_int (fun _ _ => rfl)) pa_nil))) pa_nil))))
          (pg_tup rfl (pgs_cons (pg_name (i := 8) scCase.nd rfl (.inl rfl)) (pgs_cons (pg_name (i := 9) scCase.nd rfl (.inl rfl)) pgs_nil)))
        (pss_cons (ps_if (pt_cmpR op_ne (pe_cmpR op_isN (pv 8) pe_non (nomark _)) (pe_cmpR op_isN (pv 9) pe_non (nomark _)) (by rfl)) (pss_one (ps_ret pe_bl)) pss_nil)
        (pss_one (ps_if (pw_and (pt_cmpR op_notN (pv 8) pe_non (nomark _)) (pw_and1 (pt_not (pt_val (pe_cal M.atMost hr (pa_cons (pv 9) (pa_cons (pe_cal M.price hr (pa_cons (pv 3) (pa_cons (pv 5) (pa_cons (pv 8) pa_nil)))) pa_nil))))))).pt (pss_one (ps_ret pe_bl)) pss_nil))))
      (pss_cons (ps_set (i := 10) scCase.nd rfl (.inl rfl) (LamX.pe_lamcall (X := (cxOf CX0 P w K mg base nCase "_law_case_right" (defScope sCase) f (.ref c) A outer s H E).nox) (T := [(Tb, lamQ)]) (TT := TNone K CN) (Ng := ["_law_act_here"]) (a := "_law_act_here") (k := 12) rfl gA kA lkA cdA bA scAsked rfl (.inl rfl)
          (asked_gives rfl M.ns (by decide) (fun _ => rfl)) TB rfl (List.mem_cons_self) (fun p hp _ => by rw [List.mem_singleton.mp hp]; rfl) (hr.mono (by decide)) (LamX.lamS_by (sc := defScope sCase) (by decide +kernel)) rfl (fun _ _ _ _ _ => rfl)
          (fun A outer s H E' f' c' hr2 => pe_calX M.worst hr2 (E := E') (passes_call (takes_of rfl rfl rfl rfl) fun cls d σ H h => h) (pa_cons (pv 3) (pa_cons (pv 2) (pa_cons (pv 5) pa_nil))))))
      (pss_cons (ps_if (pw_and (pt_cmpR op_notN (pe_ix (ix_lstK K) (pv 6) pe_int (fun _ _ => rfl)) pe_non (nomark _)) (pw_and1 (pw_or (pt_cmpR op_isN (pv 10) pe_non (nomark _)) (pw_or1 (pt_not (pt_val (pe_cal M.atMost hr (pa_cons (pv 10) (pa_cons (pe_ix (ix_lstK K) (pv 6) pe_int (fun _ _ => rfl)) pa_nil))))))).pt)).pt (pss_one (ps_ret pe_bl)) pss_nil)
      (pss_cons (ps_if (pw_and (pt_cmpR op_notN (pv 10) pe_non (nomark _)) (pw_and1 (pw_or (pt_cmpR op_isN (pe_ix (ix_lstK K) (pv 6) pe_int (fun _ _ => rfl)) pe_non (nomark _)) (pw_or1 (pt_not (pt_val (pe_cal M.atMost hr (pa_cons (pe_ix (ix_lstK K) (pv 6) pe_int (fun _ _ => rfl)) (pa_cons (pv 10) pa_nil))))))).pt)).pt (pss_one (ps_ret pe_bl)) pss_nil)
      (pss_cons (ps_setLc (i := 11) (own := [("_law_each", 15)]) (g := gName 15) (tt := tYes) rfl scCase.nd rfl rfl (sw_true rfl rfl rfl (by decide +kernel)) (pi_list (pv 1)) (blkOk_by (own := [("_law_each", 15)]) (N := nCase) (sc := defScope sCase) (by decide +kernel))
        (fun _ _ _ _ _ => pg_name (i := 15) scCase.nd rfl (.inl rfl)) (fun _ _ _ _ _ => pts_nil)
        (fun _ _ _ _ _ => pe_lc (own := [("_law_pair", 16)]) (g := gName 16) (tt := tYes) rfl scCase.nd (pi_listK K (pv 15)) (blkOk_by (own := [("_law_pair", 16)]) (N := nCase) (sc := cellSc (defScope sCase) fixSc) (by decide +kernel))
          (fun _ _ _ _ _ => pg_name (i := 16) scCase.nd rfl (.inl rfl)) (fun _ _ _ _ _ => pts_nil) (fun _ _ _ _ _ => pe_tup (pa_cons (pe_ix (ix_tupK K) (pv 16) pe_int (fun _ _ => rfl)) (pa_cons (pe_ix (ix_tupK K) (pv 16) pe_int (fun _ _ => rfl)) pa_nil)))))
      (pss_cons (ps_set (i := 12) scCase.nd rfl (.inr rfl) (pe_cal M.table hr (pa_cons (pe_cal M.heads hr (pa_cons (pv 0) (pa_cons (pe_callB call_len_seq (by rfl) M.bn.len PySem.boot_len (pa_cons (pv 2) pa_nil)) pa_nil))) (pa_cons (pv 11) pa_nil))))
      (pss_cons (ps_set (i := 13) scCase.nd rfl (.inl rfl) (pe_lst (pa_cons (pe_cal M.best hr (pa_cons (pv 12) (pa_cons (pv 2) (pa_cons (pv 5) pa_nil)))) (pa_cons (pe_cal M.sure hr (pa_cons (pv 12) (pa_cons (pv 2) (pa_cons (pv 5) pa_nil)))) pa_nil))))
      (pss_cons (ps_expr (pe_bm PySem.F.plainAttrs_list PySem.F.slot_list_append PySem.F.type_list_append mt_append (pv 13) (pa_cons (LamX.pe_lamcall (X := (cxOf CX0 P w K mg base nCase "_law_case_right" (defScope sCase) f (.ref c) A outer s H E).nox) (T := [(Tb, lamQ)]) (TT := TNone K CN) (Ng := ["_law_act_here"]) (a := "_law_act_here") (k := 12) rfl gA kA lkA cdA bA scAsked rfl (.inl rfl)
          (asked_gives rfl M.ns (by decide) (fun _ => rfl)) TB rfl (List.mem_cons_self) (fun p hp _ => by rw [List.mem_singleton.mp hp]; rfl) (hr.mono (by decide)) (LamX.lamS_by (sc := defScope sCase) (by decide +kernel)) rfl (fun _ _ _ _ _ => rfl)
          (fun A outer s H E' f' c' hr2 => pe_calX M.worst hr2 (E := E') (passes_call (takes_of rfl rfl rfl rfl) fun cls d σ H h => h) (pa_cons (pv 12) (pa_cons (pv 2) (pa_cons (pv 5) pa_nil))))) pa_nil)))
      (pss_one (ps_ret (pe_cmpR (op_eqK K hr.units) (pv 13) (pe_op op_rep (pe_lst (pa_cons (pe_cal M.cheap hr (pa_cons (pv 4) (pa_cons (pe_cal M.sure_ hr (pa_cons (pv 11) (pa_cons (pv 2) pa_nil))) (pa_cons (pv 5) pa_nil)))) pa_nil)) pe_int) (by rfl)))))))))))))))))), ?_⟩
    -- mine, tall = the table, the number of its rows
    have hai0 := hai
    obtain ⟨aa, xa, rfl, hsa, haa⟩ := hai.tuple
    have lxa : xa.length = wide := by rw [haa.length, List.length_map, lai]
    obtain ⟨tb, xb, rfl, etb, ntb, hdb⟩ := hb
    have lxb : xb.length = b.length := by rw [hdb.length, List.length_map]
    refine ⟨_, rfl, _, rfl, aa, xa, rfl, .inr (cut_same.tup hsa), X, a, xa.length, rfl, hX, ha, hm, by omega, by omega, fun H1 vh hs d1 hvh okh lh => ?_⟩
    have hX1 := d1.xin hX
    have nta : tb ≠ a := fun z => ntb (by rw [z]; exact ha)
    have etb1 := d1.1 _ _ etb nta
    have hdb1 := hdb.same (d1.cut ha)
    have wd' : ∀ r ∈ b, r.length = hs.length := fun r hr => by rw [okb.wd r hr, lh, lxa]
    have st' : ∀ r ∈ b, ∀ p ∈ r, StOk p := fun r hr p hp => by
      obtain ⟨o1, o2, o3⟩ := okb.sb r hr p hp
      exact ⟨by omega, o2, by omega⟩
    refine ⟨_, rfl, X, vh, .ref tb, hs, b, rfl, hX1, hvh, RawL.dp ⟨tb, xb, rfl, etb1, ntb, hdb1⟩, okh, t1, t3, wd', st', fun H2 vt s2 hvt => ?_⟩
    refine ⟨_, rfl, tb, xb, rfl, .inl (.inl (.inl (s2 _ _ etb1))), ?_⟩
    rw [lxb]
    refine ⟨(by show 2 ≤ sizeLine; decide), fun T nT => ⟨T, _, rfl, .inl (.inl upd_same), rfl, _, _, rfl, _, _, rfl, rfl, ?_⟩⟩
    have s3 : Same H2 (upd H2 T (.tup [vt, .int b.length])) := Same.new nT
    show tSeq _ _ _ [some (.ref a), some (.ref tb), some (.ref aa), some vt, some (.int b.length), none, none, none, none, none, none, none, none, none, none, none, none] (upd H2 T (.tup [vt, .int b.length]))
    have s13 := s2.trans s3
    have hvt3 := hvt.same s3
    generalize (upd H2 T (.tup [vt, .int b.length])) = H3 at s3 s13 hvt3 ⊢
    have d3 := d1.same s13
    clear s3 s2
    -- fees
    have m3 := d3.2
    have hX3 := d3.xin hX
    refine ⟨_, rfl, (b.length : Nat), rfl, by omega, by omega, fun D1 hD1 => ?_⟩
    refine lc_draw (K := K) walk_rangeN X ha (fun _ d => ∃ n : Int, d = .int n ∧ 0 ≤ n ∧ n ≤ 1000) hX3 m3 hD1 (by omega) (fun _ _ => trivial) ?_ ?_
    · rintro i x H4 H5 Q2 hi d4 hX4 ⟨rfl, rfl⟩ k
      refine ⟨rfl, ?_⟩
      refine ⟨_, rfl, (by show 8 ≤ sizeLine; decide), fun l nl => ?_⟩
      have m4 := d4.2
      have nla : l ≠ a := fun z => by
        obtain ⟨_, _, _, h1, _⟩ := m4
        rw [z, h1] at nl
        cases nl
      have s6 := Same.new (o := .lst [V.int 0, V.int 1, V.int 2, V.int 3, V.int 5, V.int 8, V.int 13, V.int 1000]) nl
      refine ⟨a, l, _, rfl, m4.same s6, nla, .inl (.inl upd_same), by decide, by decide, fun H7 k1 z1 d7 ez1 => ?_⟩
      obtain ⟨z, rfl, c1, c2⟩ := of_small (xs := [0, 1, 2, 3, 5, 8, 13, 1000]) (lo := 0) (hi := 1000) (by decide) ez1
      exact k _ H7 (.int z) (Draw.after s6 d7) (.int z) ⟨z, rfl, c1, c2⟩
    · intro H4 ds d4 lds hok hraw
      obtain ⟨fees, rfl, hfe⟩ := all_of (f := PyData.int) (Ok := fun n => 0 ≤ n ∧ n ≤ 1000) ds (fun i d e => hok i d e)
      have lf : fees.length = b.length := by
        rw [List.length_map] at lds
        omega
      have R := right fees lf hfe
      obtain ⟨aF, ys, eF, hF, nF, hFd⟩ := hraw
      cases eF
      refine ⟨_, ys, rfl, .inl ⟨.inl (.inl hF), fun lF nlF => ?_⟩⟩
      have s5 := Same.new (o := .tup ys) nlF
      have hX4 := d4.xin hX3
      have hfees : Dp K (cutH X (upd H4 lF (.tup ys))) (.ref lF) (iTup' fees) := .tup (.inl (.inl (cut_upd (hX4.new nlF)))) (hFd.same (same_cut s5))
      show tSeq _ _ _ [some (.ref a), some (.ref tb), some (.ref aa), some vt, some (.int b.length), some (.ref lF), none, none, none, none, none, none, none, none, none, none, none] (upd H4 lF (.tup ys))
      generalize (upd H4 lF (.tup ys)) = H5 at s5 hfees ⊢
      have d35 := d4.same s5
      have d5 := d3.trans d35
      have hvt5 := d35.tab m3 ha hvt3
      have hb5 : RawL K X H5 (.ref tb) (b.map fun r => .list (r.map dSt)) := d5.raw ha ⟨tb, xb, rfl, etb, ntb, hdb⟩
      have hai5 := d5.dp ha hai0
      have hT5 := d5.tabs hm hTb
      have hX5 := d5.xin hX
      have m5 := d5.2
      -- due
      have okb5 : BodyOk b aim.length := by
        rw [lai]
        exact bodyD_ok okb t3
      have l6 : b.length ≤ 6 := by omega
      have lml := mLines_len l6
      have lh' : hs.length = aim.length := by rw [lh, lxa, lai]
      have ask := ask_of okb5 okh lh' t1 (by omega) bai
      have wP := wants_some okb5 t1 (by omega) bai
      have wS := wants_sure okb5 t1 (by omega) bai
      have lf' : fees.length = (mLines b).length := by rw [lml, lf]
      refine ⟨_, rfl, _, rfl, _, rfl, X, .ref tb, .ref aa, b, aim, rfl, hX5, hb5.dp, hai5, okb5, by omega, by omega, fun H6 vw s6 hw => ?_⟩
      refine ⟨_, rfl, X, vw, .ref lF, b.length, mSome b aim, fees, rfl, hX5.same s6, hw.dp, hfees.same (same_cut s6), wP, lf, hfe, fun H7 v1 s7 hv1 => ?_⟩
      obtain ⟨o1, hv1, lo1⟩ := leastV_at hv1
      have s57 := s6.trans s7
      refine ⟨(by show 1 ≤ sizeLine; decide), fun L nL => ?_⟩
      show tSeq _ _ _ [some (.ref a), some (.ref tb), some (.ref aa), some vt, some (.int b.length), some (.ref lF), some (.ref L), none, none, none, none, none, none, none, none, none, none] (upd H7 L (.lst [v1]))
      have s8 : Same H7 (upd H7 L (.lst [v1])) := Same.new nL
      have eL8 : (upd H7 L (.lst [v1])) L = some (.lst [v1]) := upd_same
      generalize (upd H7 L (.lst [v1])) = H8 at s8 eL8 ⊢
      have s58 := s57.trans s8
      refine ⟨_, rfl, .inl ⟨rfl, _, .inl (.inl eL8)⟩, ?_⟩
      refine ⟨_, rfl, _, rfl, _, rfl, X, .ref tb, .ref aa, b, aim, rfl, hX5.same s58, (hb5.same s58).dp, hai5.same (same_cut s58), okb5, by omega, by omega, fun H9 vw2 s9 hw2 => ?_⟩
      have s59 := s58.trans s9
      refine ⟨_, rfl, X, vw2, .ref lF, b.length, mSure b aim, fees, rfl, hX5.same s59, hw2.dp, hfees.same (same_cut s59), wS, lf, hfe, fun H10 v2 s10 hv2 => ?_⟩
      obtain ⟨o2, hv2, lo2⟩ := leastV_at hv2
      have s810 := s9.trans s10
      refine ⟨L, [v1], _, rfl, rfl, s810 _ _ eL8, (by show 1 < sizeLine; decide), ?_⟩
      show tSeq _ _ _ [some (.ref a), some (.ref tb), some (.ref aa), some vt, some (.int b.length), some (.ref lF), some (.ref L), none, none, none, none, none, none, none, none, none, none] (upd H10 L (.lst [v1, v2]))
      have s711 : Same H7 (upd H10 L (.lst [v1, v2])) := same_mut (s8.trans s810) nL
      have eL11 : (upd H10 L (.lst [v1, v2])) L = some (.lst [v1, v2]) := upd_same
      have hv1 := hv1.same s711
      have hv2 := dO_mut (u := .lst [v1, v2]) (s810 _ _ eL8) hv2
      generalize (upd H10 L (.lst [v1, v2])) = H11 at s711 eL11 hv1 hv2 ⊢
      have s511 := s57.trans s711
      clear s810 s59 s9 s10 s58 s8 eL8 s7 s6 s57 hw hw2
      -- told
      refine ⟨_, rfl, _, rfl, _, rfl, X, vt, .ref aa, .ref lF, hs, mLines b, aim, fees, rfl, hX5.same s511, hvt5.same s511, hai5.same (same_cut s511), hfees.same (same_cut s511), ask, lf', hfe, fun H12 u1 c1 s12 hu1 hc1 => ?_⟩
      rw [lml, lh'] at hc1
      have k1 := R.best c1 hc1
      have e1 : c1.map Prod.snd = o1 := (leastIs_of k1).uniq lo1
      have z1 : OSz 400 o1 := e1 ▸ cheap_sz hc1
      have hu1 : Dp K H12 u1 (dO o1) := e1 ▸ costAt_at hu1
      have s512 := s511.trans s12
      refine ⟨_, rfl, _, rfl, _, rfl, X, vt, .ref aa, .ref lF, hs, mLines b, aim, fees, rfl, hX5.same s512, hvt5.same s512, hai5.same (same_cut s512), hfees.same (same_cut s512), ask, lf', hfe, fun H13 u2 c2 s13 hu2 hc2 => ?_⟩
      rw [lml, lh'] at hc2
      have k2 := R.sure c2 hc2
      have e2 : c2.map Prod.snd = o2 := (leastIs_of k2).uniq lo2
      have z2 : OSz 400 o2 := e2 ▸ cheap_sz hc2
      have hu2 : Dp K H13 u2 (dO o2) := e2 ▸ costAt_at hu2
      refine ⟨(by show 2 ≤ sizeLine; decide), fun M1 nM => ?_⟩
      have s14 := Same.new (o := .lst [u1, u2]) nM
      have hu1 := (hu1.same s13).same s14
      have hu2 := hu2.same s14
      have s1114 := (s12.trans s13).trans s14
      have eM14 : (upd H13 M1 (.lst [u1, u2])) M1 = some (.lst [u1, u2]) := upd_same
      show tSeq _ _ _ [some (.ref a), some (.ref tb), some (.ref aa), some vt, some (.int b.length), some (.ref lF), some (.ref L), some (.ref M1), none, none, none, none, none, none, none, none, none] (upd H13 M1 (.lst [u1, u2]))
      generalize (upd H13 M1 (.lst [u1, u2])) = H14 at s1114 hu1 hu2 eM14 ⊢
      have s514 := s511.trans s1114
      clear s12 s13 s14 s512 nM
      refine ⟨_, rfl, _, rfl, _, rfl, _, rfl, X, vt, .ref aa, .ref lF, hs, mLines b, aim, fees, rfl, hX5.same s514, hvt5.same s514, hai5.same (same_cut s514), hfees.same (same_cut s514), ask, lf', hfe, fun H15 u3 c3 s15 hu3 hc3 => ?_⟩
      rw [lml, lh'] at hc3
      have e3 : c3.map Prod.snd = o1 := (leastIs_of (R.best c3 hc3)).uniq lo1
      have hu3 : Dp K H15 u3 (dO o1) := e3 ▸ costAt_at hu3
      have s515 := s514.trans s15
      refine ⟨_, rfl, _, rfl, _, rfl, X, vt, .ref aa, .ref lF, hs, mLines b, aim, fees, rfl, hX5.same s515, hvt5.same s515, hai5.same (same_cut s515), hfees.same (same_cut s515), ask, lf', hfe, fun H16 u4 c4 s16 hu4 hc4 => ?_⟩
      rw [lml, lh'] at hc4
      have e4 : c4.map Prod.snd = o2 := (leastIs_of (R.sure c4 hc4)).uniq lo2
      have hu4 : Dp K H16 u4 (dO o2) := e4 ▸ costAt_at hu4
      refine ⟨(by show 2 ≤ sizeLine; decide), fun M2 nM2 => ?_⟩
      have s17 := Same.new (o := .lst [u3, u4]) nM2
      have s1417 := (s15.trans s16).trans s17
      refine ⟨M1, M2, [u1, u2], [u3, u4], rfl, rfl, s1417 _ _ eM14, upd_same, (by show 4 ≤ sizeLine; decide), fun N nN => ?_⟩
      have hu3 := (hu3.same s16).same s17
      have hu4 := hu4.same s17
      have s18 := Same.new (o := .lst [u1, u2, u3, u4]) nN
      have s1418 := s1417.trans s18
      have hu3 := hu3.same s18
      have hu4 := hu4.same s18
      have hu1 := hu1.same s1418
      have hu2 := hu2.same s1418
      have s1118 := s1114.trans s1418
      have hv1 := hv1.same s1118
      have hv2 := hv2.same s1118
      have eL := s1118 _ _ eL11
      have s518 := s511.trans s1118
      have eN : (upd (upd H16 M2 (.lst [u3, u4])) N (.lst [u1, u2, u3, u4])) N = some (.lst [u1, u2, u3, u4]) := upd_same
      show tSeq _ _ _ [some (.ref a), some (.ref tb), some (.ref aa), some vt, some (.int b.length), some (.ref lF), some (.ref L), some (.ref N), none, none, none, none, none, none, none, none, none] (upd (upd H16 M2 (.lst [u3, u4])) N (.lst [u1, u2, u3, u4]))
      generalize (upd (upd H16 M2 (.lst [u3, u4])) N (.lst [u1, u2, u3, u4])) = H18 at hu1 hu2 hu3 hu4 hv1 hv2 eL eN s518 ⊢
      clear s1118 s1418 s18 s1417 s17 s16 s515 s15 s514 s1114 s511 s711 eM14 eL11 nN nM2
      -- the first question
      have hos : ∀ o ∈ [o1, o2, o1, o2], OSz 400 o := fun o ho => by
        simp only [List.mem_cons, List.not_mem_nil, or_false] at ho
        rcases ho with rfl | rfl | rfl | rfl
        · exact z1
        · exact z2
        · exact z1
        · exact z2
      obtain ⟨sh1, sh2, sh3⟩ := shown_os (os := [o1, o2, o1, o2]) (by show 4 ≤ 4; decide) hos
      refine ⟨_, rfl, N, .list ([o1, o2, o1, o2].map dO), rfl, .lst (.inl (.inl eN)) (.cons hu1 (.cons hu2 (.cons hu3 (.cons hu4 .nil)))), sh1, sh2, sh3, ?_⟩
      refine ⟨_, rfl, L, 2, [v1, v2], rfl, rfl, eL, by decide, by decide, (by show 4 ≤ sizeLine; decide), fun L2 nL2 => ?_⟩
      have s19 : Same H18 (upd H18 L2 (.lst (List.replicate (2 : Int).toNat [v1, v2]).flatten)) := Same.new nL2
      have eL2 : (upd H18 L2 (.lst (List.replicate (2 : Int).toNat [v1, v2]).flatten)) L2 = some (.lst [v1, v2, v1, v2]) := upd_same
      generalize (upd H18 L2 (.lst (List.replicate (2 : Int).toNat [v1, v2]).flatten)) = H19 at s19 eL2 ⊢
      have hv1 := hv1.same s19
      have hv2 := hv2.same s19
      refine ⟨L2, .list ([o1, o2, o1, o2].map dO), rfl, .lst (.inl (.inl eL2)) (.cons hv1 (.cons hv2 (.cons hv1 (.cons hv2 .nil)))), sh1, sh2, sh3, ?_⟩
      refine ⟨rfl, ?_⟩
      rw [show (decide (V.str (PyData.list ([o1, o2, o1, o2].map dO)).shown = V.str (PyData.list ([o1, o2, o1, o2].map dO)).shown)) = true from decide_eq_true rfl]
      refine ⟨false, rfl, iteF ?_⟩
      have s519 := s518.trans s19
      have eL := s19 _ _ eL
      clear s518 s19 hu1 hu2 hu3 hu4 sh1 sh2 sh3 hos eL2 eN
      -- the mixes
      refine ⟨_, rfl, _, rfl, X, vt, .ref aa, hs, mLines b, aim, rfl, hX5.same s519, hvt5.same s519, hai5.same (same_cut s519), ask, fun H20 w1' p1 s20 hw1 hp1 => ?_⟩
      rw [lml, lh'] at hp1
      refine ⟨_, rfl, L, [v1, v2], _, _, rfl, rfl, .inl (.inl (s20 _ _ eL)), atI_nat (j := 0) rfl, ?_⟩
      refine ⟨(by show 2 ≤ sizeLine; decide), fun T1 nT1 => ?_⟩
      have i1 := (item_of R (by decide) hc1 hp1 e1 hw1 (hv1.same s20) z1).same (Same.new (o := .tup [w1', v1]) nT1)
      have s21 := s20.trans (Same.new (o := .tup [w1', v1]) nT1)
      have eT1 : (upd H20 T1 (.tup [w1', v1])) T1 = some (.tup [w1', v1]) := upd_same
      generalize (upd H20 T1 (.tup [w1', v1])) = H21 at i1 s21 eT1 ⊢
      have s521 := s519.trans s21
      refine ⟨_, rfl, _, rfl, X, vt, .ref aa, hs, mLines b, aim, rfl, hX5.same s521, hvt5.same s521, hai5.same (same_cut s521), ask, fun H22 w2' p2 s22 hw2 hp2 => ?_⟩
      rw [lml, lh'] at hp2
      refine ⟨_, rfl, L, [v1, v2], _, _, rfl, rfl, .inl (.inl (s22 _ _ (s21 _ _ eL))), atI_nat (j := 1) rfl, ?_⟩
      refine ⟨(by show 2 ≤ sizeLine; decide), fun T2 nT2 => ?_⟩
      have i2 := (item_of R (by decide) hc2 hp2 e2 hw2 ((hv2.same s21).same s22) z2).same (Same.new (o := .tup [w2', v2]) nT2)
      have s23 := s22.trans (Same.new (o := .tup [w2', v2]) nT2)
      have eT2 : (upd H22 T2 (.tup [w2', v2])) T2 = some (.tup [w2', v2]) := upd_same
      generalize (upd H22 T2 (.tup [w2', v2])) = H23 at i2 s23 eT2 ⊢
      refine ⟨(by show 2 ≤ sizeLine; decide), fun N3 nN3 => ?_⟩
      have s24 := Same.new (o := .lst [.ref T1, .ref T2]) nN3
      have eN3 : (upd H23 N3 (.lst [.ref T1, .ref T2])) N3 = some (.lst [.ref T1, .ref T2]) := upd_same
      have i1 := (i1.same s23).same s24
      have i2 := i2.same s24
      have eT1 := s24 _ _ (s23 _ _ eT1)
      have eT2 := s24 _ _ eT2
      generalize (upd H23 N3 (.lst [.ref T1, .ref T2])) = H24 at i1 i2 s24 eN3 eT1 eT2 ⊢
      have s1924 := (s21.trans s23).trans s24
      have s524 := s519.trans s1924
      have eL := s1924 _ _ eL
      have hv1 := hv1.same s1924
      have hv2 := hv2.same s1924
      clear s519 s1924 s24 s23 s22 s521 s21 s20 nT1 nT2 nN3 hw1 hw2
      have item : ∀ i x, ([V.ref T1, V.ref T2])[i]? = some x → ∃ T wv fv, x = V.ref T ∧ H24 T = some (.tup [wv, fv]) ∧ Item K X H24 b.length fees wv fv := fun i x e => by
        rcases two_at e with rfl | rfl
        · exact ⟨T1, w1', v1, rfl, eT1, i1⟩
        · exact ⟨T2, w2', v2, rfl, eT2, i2⟩
      refine ⟨N3, rfl, ⟨_, .inl (.inl eN3)⟩, ?_⟩
      refine for_it walk_list (fun i σ H => ∃ f8 f9, σ = [some (.ref a), some (.ref tb), some (.ref aa), some vt, some (.int b.length), some (.ref lF), some (.ref L), some (.ref N), f8, f9, none, none, none, none, none, none, none] ∧ Same H24 H) ⟨none, none, rfl, Same.refl _⟩ (fun i σ H _ ⟨_, _, _, s2⟩ => .inl (.inl (s2 _ _ eN3))) ?_ ?_
      · rintro i x σ H25 H26 hi ⟨f8, f9, rfl, s25⟩ ⟨rfl, ex⟩
        obtain ⟨T0, wv, fv, rfl, eT0, it⟩ := item i x ex
        obtain ⟨p, o, it1, it2, it3, it4, it5⟩ := (it.same s25).ex
        have s525 := s524.trans s25
        refine ⟨T0, _, rfl, .inl (.inl (s25 _ _ eT0)), rfl, _, _, rfl, _, _, rfl, rfl, ?_⟩
        have ed : decide (wv = V.non) = decide (fv = V.non) := by
          rw [point_isNone it1, dO_isNone it2]
          cases p <;> cases o <;> simp_all
        refine ⟨_, rfl, rfl, _, rfl, rfl, rfl, false, by rw [ed, decide_eq_true rfl]; rfl, iteF ?_⟩
        have e1' := point_isNone it1
        cases p with
        | none => exact ⟨_, rfl, rfl, false, by rw [e1']; rfl, iteF (iteF ⟨_, _, rfl, s25⟩)⟩
        | some r =>
          obtain ⟨x0, q0⟩ := r
          obtain ⟨⟨lx, nx, ox⟩, zx, lex⟩ := it5 x0 q0 rfl
          have no : o ≠ none := fun z => (Option.some_ne_none _ (it4.mpr z)).elim
          obtain ⟨q, rfl⟩ : ∃ q, o = some q := Option.ne_none_iff_exists'.mp no
          refine ⟨_, rfl, rfl, true, by rw [e1']; rfl, iteT ?_⟩
          refine ⟨_, rfl, _, rfl, _, rfl, _, rfl, X, vt, .ref lF, wv, hs, mLines b, fees, x0, rfl, hX5.same s525, hvt5.same s525, hfees.same (same_cut s525), it1, ask.t3, lf', hfe, by rw [lml, lx], zx, nx, ox, fun H27 v27 s27 hv27 => ?_⟩
          refine ⟨fv, v27, q, mWeighed x0 fees, rfl, (Fr.of it2).same s27, hv27, Sz.mono it3 (by decide), weighed_sz zx (fees_bd hfe) (by omega), true, by rw [decide_eq_true (lex q rfl)], iteF ⟨_, _, rfl, s25.trans s27⟩⟩
      · rintro σ H25 ⟨f8, f9, rfl, s25⟩
        -- the middle
        have s525 := s524.trans s25
        refine ⟨hT5.ext s525, fun H26 x26 T26 => ?_⟩
        have hX26 := extn_xin x26 (hX5.same s525)
        have hvt26 := extn_tab x26 (hvt5.same s525)
        have hb26 := extn_raw x26 (hb5.same s525)
        have hai26 := dp_extn (extn_cut x26) _ _ (hai5.same (same_cut s525))
        have hfees26 := dp_extn (extn_cut x26) _ _ (hfees.same (same_cut s525))
        have m26 := extn_mug x26 (m5.same s525)
        have eL26 := x26 _ _ (s25 _ _ eL) (fun ps z => by cases z)
        have hv126 := dp_extn x26 _ _ (hv1.same s25)
        have hv226 := dp_extn x26 _ _ (hv2.same s25)
        apply sharedW (P := fun v H27 => Same H26 H27 ∧ WorstV K H27 v (mLines b) aim hs.length fees)
        case mk =>
          intro key
          refine ⟨_, rfl, _, rfl, _, rfl, X, vt, .ref aa, .ref lF, hs, mLines b, aim, fees, rfl, hX26, hvt26, hai26, hfees26, ask, lf', hfe, fun H27 v q s27 hv top => ?_, fun H27 s27 no => ⟨true, M.exm, fun _ => ?_, fun z => by cases z⟩⟩
          · exact key v H27 ⟨s27, .inr ⟨q, hv, top⟩⟩
          · exact key .non H27 ⟨s27, .inl ⟨rfl, no⟩⟩
        case key =>
          rintro vm H27 ⟨s27, hvm⟩
          rw [lh'] at hvm
          obtain ⟨oM, hvm, zM, nM, tM⟩ := worst_at hvm
          obtain ⟨bt1, bt2⟩ := between R hc1 hc2 e1 e2 nM tM
          show tSeq _ _ _ [some (.ref a), some (.ref tb), some (.ref aa), some vt, some (.int b.length), some (.ref lF), some (.ref L), some (.ref N), f8, f9, some vm, none, none, none, none, none, none] H27
          have eL := s27 _ _ eL26
          have hv1 := hv126.same s27
          have hv2 := hv226.same s27
          apply sharedU
          case mk =>
            intro key
            cases o2 with
            | none => exact ⟨_, rfl, L, [v1, v2], _, _, rfl, rfl, .inl (.inl eL), atI_nat (j := 1) rfl, rfl, false, by rw [dO_isNone hv2]; rfl, iteF (iteF key)⟩
            | some q =>
              obtain ⟨m, em, le⟩ := bt1 q rfl
              rw [em] at hvm zM
              exact ⟨_, rfl, L, [v1, v2], _, _, rfl, rfl, .inl (.inl eL), atI_nat (j := 1) rfl, rfl, true, by rw [dO_isNone hv2]; rfl, iteT ⟨_, rfl, rfl, false, by rw [dO_isNone hvm]; rfl, iteF ⟨_, rfl, _, rfl, L, [v1, v2], _, _, rfl, rfl, .inl (.inl eL), atI_nat (j := 1) rfl,
                vm, v2, m, q, rfl, Fr.of hvm, Fr.of hv2, Sz.mono zM (by decide), Sz.mono z2 (by decide), true, by rw [decide_eq_true le], iteF key⟩⟩⟩
          case key =>
            apply sharedU
            case mk =>
              intro key
              cases oM with
              | none => exact ⟨_, rfl, rfl, false, by rw [dO_isNone hvm]; rfl, iteF (iteF key)⟩
              | some m =>
                obtain ⟨q, eq, le⟩ := bt2 m rfl
                rw [eq] at hv1 z1
                exact ⟨_, rfl, rfl, true, by rw [dO_isNone hvm]; rfl, iteT ⟨_, rfl, L, [v1, v2], _, _, rfl, rfl, .inl (.inl eL), atI_nat (j := 0) rfl, rfl, false, by rw [dO_isNone hv1]; rfl, iteF ⟨_, rfl, L, [v1, v2], _, _, rfl, rfl, .inl (.inl eL), atI_nat (j := 0) rfl, _, rfl,
                  v1, vm, q, m, rfl, Fr.of hv1, Fr.of hvm, Sz.mono z1 (by decide), Sz.mono zM (by decide), true, by rw [decide_eq_true le], iteF key⟩⟩⟩
            case key =>
              -- the fixed body
              have hX27 := hX26.same s27
              have hai27 := hai26.same (same_cut s27)
              have hfees27 := hfees26.same (same_cut s27)
              have m27 := m26.same s27
              have T27 := T26.ext s27
              obtain ⟨tb', xb', eb', etb27, _, hdb27⟩ := hb26.same s27
              cases eb'
              have lxb' : xb'.length = b.length := by rw [hdb27.length, List.length_map]
              refine ⟨_, rfl, tb, rfl, ⟨_, .inl (.inl etb27)⟩, fun D2 hD2 => ?_⟩
              refine lc_map (K := K) walk_list X ((fixB b).map fun r => .list (r.map dSt)) hX27 hD2 (by rw [List.length_map, fix_len, lxb']) (by omega) (fun H2 s2 => .inl (.inl (s2 _ _ etb27))) ?_ fun H28 s28 hfix => ?_
              · rintro i x H2 H3 d Q2 hd2 s2 sc hX2 ⟨rfl, ex⟩ k
                obtain ⟨r, er, hr2⟩ := bRow_at hdb27 ex
                have ed : d = .list ((r.map fun p => (p.1, p.1)).map dSt) := by
                  rw [fixB, List.map_map, List.getElem?_map, er] at hd2
                  exact (Option.some.inj hd2).symm
                subst ed
                obtain ⟨ar, rs, rfl, hsr, hdr⟩ := (hr2.same sc).list
                have wr := okb.wd r (List.mem_of_getElem? er)
                have lrs : rs.length = r.length := by rw [hdr.length, List.length_map]
                refine ⟨rfl, _, rfl, ar, rfl, ⟨_, cut_same.seq hsr⟩, fun D3 hD3 => ?_⟩
                refine lc_map (K := K) walk_list (D2 :: X) ((r.map fun p => (p.1, p.1)).map dSt) hX2 hD3 (by rw [List.length_map, List.length_map, lrs]) (by omega) (fun H s => s.seq (cut_same.seq hsr)) ?_ fun H4 s4 ho => k _ H4 s4 ho
                rintro j x H4 H5 d Q3 hd4 s4 sc4 hX4 ⟨rfl, ex4⟩ k4
                obtain ⟨d', ed', hp⟩ := hdr.at ex4
                rw [List.getElem?_map] at ed'
                cases ep : r[j]? with
                | none =>
                  rw [ep] at ed'
                  cases ed'
                | some p =>
                  rw [ep] at ed'
                  cases ed'
                  have ed : d = dSt (p.1, p.1) := by
                    rw [List.map_map, List.getElem?_map, ep] at hd4
                    exact (Option.some.inj hd4).symm
                  subst ed
                  obtain ⟨av, rfl, hsv⟩ := st_of (hp.same sc4)
                  have hsv := cut_same.tup hsv
                  refine ⟨rfl, _, rfl, av, _, _, _, rfl, rfl, hsv, atI_nat (j := 0) rfl, _, rfl, av, _, _, _, rfl, rfl, hsv, atI_nat (j := 0) rfl, (by show 2 ≤ sizeLine; decide), fun T0 nT0 => k4 (.ref T0) _ (Same.new nT0) ?_⟩
                  exact .tup (.inl (.inl (cut_upd (hX4.new nT0)))) (.cons (.int _) (.cons (.int _) .nil))
              · show tSeq _ _ _ [some (.ref a), some (.ref tb), some (.ref aa), some vt, some (.int b.length), some (.ref lF), some (.ref L), some (.ref N), f8, f9, some vm, some (.ref D2), none, none, none, none, none] H28
                have fok := fix_ok okb5
                have fl := fix_len b
                have f6 : (fixB b).length ≤ 6 := by omega
                have fml := mLines_len f6
                have hX28 := hX27.same s28
                have hai28 := hai27.same (same_cut s28)
                obtain ⟨aa', xa', ea', hsa', haa'⟩ := hai28.tuple
                cases ea'
                have lxa' : xa'.length = aim.length := by rw [haa'.length, List.length_map]
                have m28 := m27.same s28
                refine ⟨_, rfl, _, rfl, aa, xa', rfl, .inr (cut_same.tup hsa'), X, a, xa'.length, rfl, hX28, ha, m28, by omega, by omega, fun H29 vh2 hs2 d29 hvh2 okh2 lh2 => ?_⟩
                have lh2' : hs2.length = aim.length := by rw [lh2, lxa']
                have ask2 := ask_of fok okh2 lh2' (by omega) (by omega) bai
                have hX29 := d29.xin hX28
                have hai29 := d29.dp ha hai28
                have hfees29 := d29.dp ha (hfees27.same (same_cut s28))
                have hfix29 : Dp K (cutH X H29) (.ref D2) (dBody (fixB b)) := d29.dp ha hfix
                have T29 := d29.tabs m28 (T27.ext s28)
                clear hai28 hsa' haa' hX28 m28 hfix
                refine ⟨_, rfl, X, vh2, .ref D2, hs2, fixB b, rfl, hX29, hvh2, hfix29, okh2, by omega, by omega, fun r hr => by rw [fok.wd r hr, lh2'], st_of_bd fok, fun H30 vt2 s30 hvt2 => ?_⟩
                show tSeq _ _ _ [some (.ref a), some (.ref tb), some (.ref aa), some vt, some (.int b.length), some (.ref lF), some (.ref L), some (.ref N), f8, f9, some vm, some (.ref D2), some vt2, none, none, none, none] H30
                have hX30 := hX29.same s30
                have hai30 := hai29.same (same_cut s30)
                have hfees30 := hfees29.same (same_cut s30)
                have hfix30 := hfix29.same (same_cut s30)
                have lf2 : fees.length = (mLines (fixB b)).length := by omega
                refine ⟨_, rfl, _, rfl, _, rfl, X, vt2, .ref aa, .ref lF, hs2, mLines (fixB b), aim, fees, rfl, hX30, hvt2, hai30, hfees30, ask2, lf2, hfe, fun H31 x1 g1 s31 hx1 hg1 => ?_⟩
                rw [fml, fl, lh2'] at hg1
                have k1 := leastIs_of (R.fbest g1 hg1)
                have y1 := costAt_at hx1
                refine ⟨_, rfl, _, rfl, _, rfl, X, vt2, .ref aa, .ref lF, hs2, mLines (fixB b), aim, fees, rfl, hX30.same s31, hvt2.same s31, hai30.same (same_cut s31), hfees30.same (same_cut s31), ask2, lf2, hfe, fun H32 x2 g2 s32 hx2 hg2 => ?_⟩
                rw [fml, fl, lh2'] at hg2
                have k2 := leastIs_of (R.fsure g2 hg2)
                have y2 := costAt_at hx2
                refine ⟨(by show 2 ≤ sizeLine; decide), fun Z nZ => ?_⟩
                show tSeq _ _ _ [some (.ref a), some (.ref tb), some (.ref aa), some vt, some (.int b.length), some (.ref lF), some (.ref L), some (.ref N), f8, f9, some vm, some (.ref D2), some vt2, some (.ref Z), none, none, none] (upd H32 Z (.lst [x1, x2]))
                have s33 : Same H32 (upd H32 Z (.lst [x1, x2])) := Same.new nZ
                have eZ : (upd H32 Z (.lst [x1, x2])) Z = some (.lst [x1, x2]) := upd_same
                have y1 := (y1.same s32).same s33
                have y2 := y2.same s33
                generalize (upd H32 Z (.lst [x1, x2])) = H33 at s33 eZ y1 y2 ⊢
                have s3033 := (s31.trans s32).trans s33
                refine ⟨_, rfl, .inl ⟨rfl, _, .inl (.inl eZ)⟩, ?_⟩
                refine ⟨(T29.ext s30).ext s3033, fun H34 x34 T34 => ?_⟩
                have hX34 := extn_xin x34 (hX30.same s3033)
                have hvt34 := extn_tab x34 (hvt2.same s3033)
                have hai34 := dp_extn (extn_cut x34) _ _ (hai30.same (same_cut s3033))
                have hfees34 := dp_extn (extn_cut x34) _ _ (hfees30.same (same_cut s3033))
                have hfix34 := dp_extn (extn_cut x34) _ _ (hfix30.same (same_cut s3033))
                have eZ34 := x34 _ _ eZ (fun ps z => by cases z)
                have y134 := dp_extn x34 _ _ y1
                have y234 := dp_extn x34 _ _ y2
                apply sharedW (P := fun v H35 => Same H34 H35 ∧ WorstV K H35 v (mLines (fixB b)) aim hs2.length fees)
                case mk =>
                  intro key
                  refine ⟨_, rfl, _, rfl, _, rfl, X, vt2, .ref aa, .ref lF, hs2, mLines (fixB b), aim, fees, rfl, hX34, hvt34, hai34, hfees34, ask2, lf2, hfe, fun H35 v q s35 hv top => ?_, fun H35 s35 no => ⟨true, M.exm, fun _ => ?_, fun z => by cases z⟩⟩
                  · exact key v H35 ⟨s35, .inr ⟨q, hv, top⟩⟩
                  · exact key .non H35 ⟨s35, .inl ⟨rfl, no⟩⟩
                case key =>
                  rintro x3 H35 ⟨s35, hx3⟩
                  rw [lh2'] at hx3
                  obtain ⟨oW, y3, _, nW, tW⟩ := worst_at hx3
                  have k3 := fix_least R nW tW
                  refine ⟨Z, [x1, x2], _, rfl, rfl, s35 _ _ eZ34, (by show 2 < sizeLine; decide), ?_⟩
                  show tSeq _ _ _ [some (.ref a), some (.ref tb), some (.ref aa), some vt, some (.int b.length), some (.ref lF), some (.ref L), some (.ref N), f8, f9, some vm, some (.ref D2), some vt2, some (.ref Z), none, none, none] (upd H35 Z (.lst [x1, x2, x3]))
                  have x36 : LamX.ExtN H32 (upd H35 Z (.lst [x1, x2, x3])) := fun b o e n => by
                    rw [upd_ne (ne_of_none e nZ)]
                    exact s35 _ _ (x34 _ _ (s33 _ _ e) n)
                  have eZ36 : (upd H35 Z (.lst [x1, x2, x3])) Z = some (.lst [x1, x2, x3]) := upd_same
                  have T36 := tabs_mut (u := .lst [x1, x2, x3]) (s35 _ _ eZ34) (T34.ext s35)
                  have y1 := dO_mut (u := .lst [x1, x2, x3]) (s35 _ _ eZ34) (y134.same s35)
                  have y2 := dO_mut (u := .lst [x1, x2, x3]) (s35 _ _ eZ34) (y234.same s35)
                  have y3 := dO_mut (u := .lst [x1, x2, x3]) (s35 _ _ eZ34) y3
                  generalize (upd H35 Z (.lst [x1, x2, x3])) = H36 at x36 eZ36 T36 y1 y2 y3 ⊢
                  have s3032 := s31.trans s32
                  have hX36 := extn_xin x36 (hX30.same s3032)
                  have hai36 := dp_extn (extn_cut x36) _ _ (hai30.same (same_cut s3032))
                  have hfees36 := dp_extn (extn_cut x36) _ _ (hfees30.same (same_cut s3032))
                  have hfix36 := dp_extn (extn_cut x36) _ _ (hfix30.same (same_cut s3032))
                  have wF : WantsOk b.length (mSure (fixB b) aim) := fl ▸ wants_sure fok (by omega) (by omega) bai
                  refine ⟨_, rfl, _, rfl, _, rfl, _, rfl, X, .ref D2, .ref aa, fixB b, aim, rfl, hX36, hfix36, hai36, fok, by omega, by omega, fun H37 vw3 s37 hw3 => ?_⟩
                  refine ⟨_, rfl, X, vw3, .ref lF, b.length, mSure (fixB b) aim, fees, rfl, hX36.same s37, hw3.dp, hfees36.same (same_cut s37), wF, lf, hfe, fun H38 v4 s38 hv4 => ?_⟩
                  obtain ⟨o4, y4, k4⟩ := leastV_at hv4
                  have q1 : g1.map Prod.snd = o4 := k1.uniq k4
                  have q2 : g2.map Prod.snd = o4 := k2.uniq k4
                  have q3 : oW = o4 := k3.uniq k4
                  rw [q1] at y1
                  rw [q2] at y2
                  rw [q3] at y3
                  refine ⟨(by show 1 ≤ sizeLine; decide), fun Y nY => ?_⟩
                  refine ⟨Y, 3, [v4], rfl, rfl, upd_same, by decide, by decide, (by show 3 ≤ sizeLine; decide), fun Y2 nY2 => ?_⟩
                  have s39 : Same H38 (upd H38 Y (.lst [v4])) := Same.new nY
                  have s40 : Same (upd H38 Y (.lst [v4])) (upd (upd H38 Y (.lst [v4])) Y2 (.lst (List.replicate (3 : Int).toNat [v4]).flatten)) := Same.new nY2
                  have eY2 : (upd (upd H38 Y (.lst [v4])) Y2 (.lst (List.replicate (3 : Int).toNat [v4]).flatten)) Y2 = some (.lst [v4, v4, v4]) := upd_same
                  generalize (upd (upd H38 Y (.lst [v4])) Y2 (.lst (List.replicate (3 : Int).toNat [v4]).flatten)) = H40 at s40 eY2 ⊢
                  have y4 := (y4.same s39).same s40
                  have s3640 := ((s37.trans s38).trans s39).trans s40
                  refine ⟨.list ([o4, o4, o4].map dO), .list ([o4, o4, o4].map dO), .lst (.inl (.inl (s3640 _ _ eZ36))) (.cons (y1.same s3640) (.cons (y2.same s3640) (.cons (y3.same s3640) .nil))), .lst (.inl (.inl eY2)) (.cons y4 (.cons y4 (.cons y4 .nil))), (flat_os _).shaped (by decide), (flat_os _).shaped (by decide), ?_⟩
                  rw [eqv_list]
                  exact q _ (T36.ext s3640) ((((((((((kept_draw d5).trans (kept_same s525)).trans (kept_extn x26)).trans (kept_same s27)).trans (kept_same s28)).trans (kept_draw d29)).trans (kept_same s30)).trans (kept_same s3032)).trans (kept_extn x36)).trans (kept_same s3640))
end
end Cs
set_option Elab.async false
set_option linter.all false
set_option maxRecDepth 100000
set_option maxHeartbeats 40000000
/-! one number's question; the law -/
namespace Cs
open PySem PySem.Spec PyProof.Rows L2
section
variable {P : Program} {w : World} {K : PySem.W.Frag} {mg : Str → Option Value} {base : Heap}
abbrev sRight : Stmt := topS 117
abbrev nRight : List Str := ["_law_mug_here", "_law_body_here", "_law_aim_here", "_law_pair"]
theorem scRight : FnScope nRight ["_law_mug_here"] (defScope sRight) := ⟨rfl, rfl, rfl, by decide +kernel, rfl, by decide +kernel, by decide +kernel⟩
/-- the bounds of a widened aim -/
def WB (p : Int × Int) : Prop := -9 ≤ p.1 ∧ p.1 ≤ p.2 ∧ p.2 ≤ 18
def spRight (Tb : Addr) : Sp := fun vs H Q _ => ∃ (a : Addr), vs = [.ref a] ∧ MugAt H a ∧ LamX.Tabs [(Tb, lamQ)] H ∧ ∀ H', LamX.Tabs [(Tb, lamQ)] H' → Kept a H H' → Q (.bl true) H'
theorem c_right {Tb : Addr} (D : DefAt K mg "_law_right" sRight ["_law_mug_here"]) (B : Bn mg) (Si : Cal P w K mg base 1 "_law_sip" ["_law_mug_here", "_law_top"] spSip) (Of : Cal P w K mg base 2 "_law_of" ["_law_mug_here", "_law_things"] (spLOf K))
    (Bo : Cal P w K mg base 4 "_law_body" ["_law_mug_here", "_law_tall", "_law_wide"] (spLBody K)) (Ai : Cal P w K mg base 3 "_law_aim" ["_law_mug_here", "_law_body_here"] (spLAim K)) (Ca : CalG P w K mg base 15 "_law_case_right" ["_law_mug_here", "_law_body_here", "_law_aim_here"] (spCase K Tb)) :
    CalG P w K mg base 16 "_law_right" ["_law_mug_here"] (spRight Tb) := by
  refine D.calG fun f fd F => ?_
  refine fun_okG F scRight (fun vs H Q E h => ?_) (fun cdv A outer s H vs Q E hr hgd h => ?_)
  · obtain ⟨a, rfl, _⟩ := h
    rfl
  · obtain ⟨a, rfl, hm, hT, q⟩ := h
    refine ⟨_, pss_cons (ps_set (i := 1) scRight.nd rfl (.inl rfl) (pe_cal Bo hr (pa_cons (pv 0) (pa_cons (pe_op op_add pe_int (pe_cal Si hr (pa_cons (pv 0) (pa_cons pe_int pa_nil)))) (pa_cons (pe_op op_add pe_int (pe_cal Of hr (pa_cons (pv 0) (pa_cons (pe_lst (pa_cons pe_int (pa_cons pe_int (pa_cons pe_int (pa_cons pe_int (pa_cons pe_int pa_nil)))))) pa_nil)))) pa_nil)))))
      (pss_cons (ps_set (i := 2) scRight.nd rfl (.inl rfl) (pe_cal Ai hr (pa_cons (pv 0) (pa_cons (pv 1) pa_nil))))
      (pss_cons (ps_if (pt_cmpR op_gt (pe_cal Si hr (pa_cons (pv 0) (pa_cons pe_int pa_nil))) pe_int (nomark _)) (pss_one (ps_set (i := 2) scRight.nd rfl (.inl rfl) (pe_callTy (call_tupleK K) (by rfl) B.tup (by decide +kernel) (pa_cons (pe_lc (own := [("_law_pair", 3)]) (g := gName 3) (tt := tYes) rfl scRight.nd (pi_tup (pv 2)) (blkOk_by (own := [("_law_pair", 3)]) (N := nRight) (sc := defScope sRight) (by decide +kernel))
        (fun _ _ _ _ _ => pg_name (i := 3) scRight.nd rfl (.inl rfl)) (fun _ _ _ _ _ => pts_nil)
        (fun _ _ _ _ _ => pe_tup (pa_cons (pe_op op_sub (pe_ix (ix_tupK K) (pv 3) pe_int (fun _ _ => rfl)) (pe_cal Si hr (pa_cons (pv 0) (pa_cons pe_int pa_nil)))) (pa_cons (pe_op op_add (pe_ix (ix_tupK K) (pv 3) pe_int (fun _ _ => rfl)) (pe_cal Si hr (pa_cons (pv 0) (pa_cons pe_int pa_nil)))) pa_nil)))) pa_nil)))) pss_nil)
      (pss_one (ps_ret (pe_calG Ca hr hgd (pa_cons (pv 0) (pa_cons (pv 1) (pa_cons (pv 2) pa_nil)))))))), ?_⟩
    have mem : a ∈ [a] := List.mem_cons_self
    have ne_mug : ∀ {H0 : Hp} {l : Addr}, MugAt H0 a → H0 l = none → l ≠ a := fun m nl z => by
      obtain ⟨_, _, _, h1, _⟩ := m
      rw [z, h1] at nl
      cases nl
    refine ⟨_, rfl, _, rfl, a, 3, rfl, hm, by decide, by decide, fun H1 n1 d1 h1 h2 => ⟨_, _, rfl, rfl, ?_⟩⟩
    have m1 := d1.2
    refine ⟨_, rfl, (by show 5 ≤ sizeLine; decide), fun l nl => ?_⟩
    have s2 := Same.new (o := .lst [V.int 0, V.int 0, V.int 1, V.int 1, V.int 2]) nl
    refine ⟨a, l, _, rfl, m1.same s2, ne_mug m1 nl, .inl (.inl upd_same), by decide, by decide, fun H3 k1 z1 d3 ez1 => ?_⟩
    obtain ⟨z, rfl, c1, c2⟩ := of_small (xs := [0, 0, 1, 1, 2]) (lo := 0) (hi := 2) (by decide) ez1
    have d03 := d1.trans (Draw.after s2 d3)
    refine ⟨_, _, rfl, rfl, ?_⟩
    obtain ⟨t, et⟩ : ∃ t : Nat, 1 + n1 = (t : Int) := ⟨(1 + n1).toNat, by omega⟩
    obtain ⟨u, eu⟩ : ∃ u : Nat, 1 + z = (u : Int) := ⟨(1 + z).toNat, by omega⟩
    have xin : ∀ {H0 : Hp}, MugAt H0 a → Xin [a] H0 := fun m b hb => by
      rcases List.mem_singleton.mp hb with rfl
      obtain ⟨_, _, _, h1, _⟩ := m
      exact ⟨_, h1⟩
    refine ⟨[a], a, t, u, by show [V.ref a, V.int (1 + n1), V.int (1 + z)] = [V.ref a, V.int (t : Int), V.int (u : Int)]; rw [et, eu], xin d3.2, mem, d3.2, by omega, by omega, fun H4 vb b d4 hb okb => ?_⟩
    have lb := okb.len
    refine ⟨_, rfl, _, rfl, [a], a, vb, b, t, u, rfl, xin d4.2, mem, d4.2, hb, okb, by omega, by omega, by omega, fun H5 va aim d5 hai lai hAB => ?_⟩
    show tSeq _ _ _ [some (.ref a), some vb, some va, none] H5
    have d05 := (d03.trans d4).trans d5
    have hb5 := d5.raw mem hb
    have m5 := d5.2
    apply sharedW (P := fun v H' => ∃ aim', Draw a H5 H' ∧ Dp K (cutH [a] H') v (dAim aim') ∧ aim'.length = u ∧ ∀ p ∈ aim', WB p)
    case mk =>
      intro key
      refine ⟨_, rfl, a, 3, rfl, m5, by decide, by decide, fun H6 n6 d6 h61 h62 => ⟨_, _, rfl, rfl, _, rfl, ?_⟩⟩
      by_cases hc : ¬ 0 < n6
      · rw [decide_eq_false hc]
        refine iteF ?_
        generalize hv0 : va = v0
        refine key v0 H6 ⟨aim, d6, hv0 ▸ d6.dp mem hai, lai, fun p hp => ?_⟩
        obtain ⟨o1, o2, o3⟩ := hAB p hp
        exact ⟨by omega, o2, by omega⟩
      · rw [decide_eq_true (by omega)]
        obtain ⟨aa, xa, rfl, hsa, haa⟩ := (d6.dp mem hai).tuple
        have lxa : xa.length = u := by rw [haa.length, List.length_map, lai]
        refine iteT ⟨_, rfl, aa, rfl, ⟨_, cut_same.tup hsa⟩, fun D2 hD2 => ?_⟩
        refine lc_draw (K := K) walk_tup [a] mem (fun _ d => ∃ p : Int × Int, d = dSt p ∧ WB p) (xin d6.2) d6.2 hD2 (by omega) (fun H d => cut_same.tup ((d.cut mem).tup hsa)) ?_ ?_
        · rintro i x H7 H8 Q2 hi d7 hX7 ⟨rfl, ex⟩ k
          obtain ⟨dd, ed, hp⟩ := haa.at ex
          rw [List.getElem?_map] at ed
          cases ep : aim[i]? with
          | none =>
            rw [ep] at ed
            cases ed
          | some p =>
            rw [ep] at ed
            cases ed
            obtain ⟨o1, o2, o3⟩ := hAB p (List.mem_of_getElem? ep)
            obtain ⟨av, rfl, hsv⟩ := st_of (hp.same (d7.cut mem))
            refine ⟨rfl, _, rfl, av, _, _, _, rfl, rfl, cut_same.tup hsv, atI_nat (j := 0) rfl, _, rfl, a, 5, rfl, d7.2, by decide, by decide, fun H9 j1 d9 g1 g2 => ⟨_, _, rfl, rfl, ?_⟩⟩
            refine ⟨_, rfl, av, _, _, _, rfl, rfl, cut_same.tup ((d9.cut mem).tup hsv), atI_nat (j := 1) rfl, _, rfl, a, 5, rfl, d9.2, by decide, by decide, fun H11 j2 d11 g3 g4 => ⟨_, _, rfl, rfl, (by show 2 ≤ sizeLine; decide), fun T0 nT0 => ?_⟩⟩
            have s12 := Same.new (o := .tup [.int (p.1 - j1), .int (p.2 + j2)]) nT0
            have d12 := (d9.trans d11).same s12
            refine k (.ref T0) _ (dSt (p.1 - j1, p.2 + j2)) d12 ?_ ⟨_, rfl, ⟨?_, ?_, ?_⟩⟩
            · exact .tup (.inl (.inl (cut_upd (((d9.trans d11).xin hX7).new nT0)))) (.cons (.int _) (.cons (.int _) .nil))
            · show -9 ≤ p.1 - j1
              omega
            · show p.1 - j1 ≤ p.2 + j2
              omega
            · show p.2 + j2 ≤ 18
              omega
        · intro H7 ds d7 lds hok hraw
          obtain ⟨aim', rfl, hW⟩ := all_of (f := dSt) (Ok := WB) ds (fun i d e => hok i d e)
          obtain ⟨aD, ys, eD, hD, nD, hall⟩ := hraw
          cases eD
          refine ⟨_, ys, rfl, .inl ⟨.inl (.inl hD), fun l2 nl2 => ?_⟩⟩
          have s8 := Same.new (o := .tup ys) nl2
          rw [List.length_map] at lds
          exact key _ _ ⟨aim', (d6.trans d7).same s8, .tup (.inl (.inl (cut_upd ((xin d7.2).new nl2)))) (hall.same (same_cut s8)), by omega, hW⟩
    case key =>
      rintro v H6 ⟨aim', d6, hai', lai', hW⟩
      have okD : BodyD b b.length u := ⟨rfl, okb.wd, okb.sb⟩
      have hBd : ∀ p ∈ aim', Bd p := fun p hp => by
        obtain ⟨o1, o2, o3⟩ := hW p hp
        exact ⟨by omega, o2, by omega⟩
      have d06 := d05.trans d6
      have ok : BodyOk b aim'.length := by
        rw [lai']
        exact bodyD_ok okD (by omega)
      exact ⟨_, rfl, _, rfl, _, rfl, [a], a, vb, v, b, aim', u, rfl, xin d6.2, mem, d6.2, d06.tabs hm hT, d6.raw mem hb5, hai', okD, by omega, by omega, by omega, by omega, lai', hBd,
        fun fees lf hfe => right_of ok (by omega) (by omega) hBd lf, fun H7 T7 k7 => q H7 T7 ((kept_draw d06).trans k7)⟩
/-! ### the law -/
abbrev sLaw : Stmt := topS 118
abbrev nLaw : List Str := ["_law_cells", "_law_k"]
theorem scLaw : FnScope nLaw ["_law_cells"] (defScope sLaw) := ⟨rfl, rfl, rfl, by decide +kernel, rfl, by decide +kernel, by decide +kernel⟩
def spLaw (K : PySem.W.Frag) (Tb : Addr) : Sp := fun vs H Q _ => ∃ (ac : Addr) (ns : List Int), vs = [.ref ac] ∧ SqL K H ac (ns.map V.int) ∧ ns.length ≤ 63 ∧ LamX.Tabs [(Tb, lamQ)] H ∧ ∀ H', Q (.bl true) H'
theorem f_law {Tb f : Addr} {fd : FuncData} (F : Fun K "law" "law" sLaw f fd) (B : Bn mg) (Mu : Cal P w K mg base 1 "_law_mug" ["_law_cells", "_law_k"] (spLMug K)) (Ri : CalG P w K mg base 16 "_law_right" ["_law_mug_here"] (spRight Tb)) : FnG P w K mg base 17 f fd ["_law_cells"] (spLaw K Tb) := by
  refine fun_okG F scLaw (fun vs H Q E h => ?_) (fun cdv A outer s H vs Q E hr hgd h => ?_)
  · obtain ⟨ac, ns, rfl, _⟩ := h
    rfl
  · obtain ⟨ac, ns, rfl, hs, hl, hT, q⟩ := h
    refine ⟨_, pss_one (ps_ret (pe_callB (cr_all rfl) (by rfl) B.all (by decide +kernel) (pa_cons (pe_lc (own := [("_law_k", 1)]) (g := gName 1) (tt := tYes) rfl scLaw.nd (pi_range1 (by rfl) B.range (pa_cons pe_int pa_nil)) (blkOk_by (own := [("_law_k", 1)]) (N := nLaw) (sc := defScope sLaw) (by decide +kernel))
      (fun _ _ _ _ _ => pg_name (i := 1) scLaw.nd rfl (.inl rfl)) (fun _ _ _ _ _ => pts_nil) (fun _ _ _ _ _ => pe_calG Ri hr hgd (pa_cons (pe_cal Mu hr (pa_cons (pv 0) (pa_cons (pv 1) pa_nil))) pa_nil))) pa_nil))), ?_⟩
    refine ⟨2, rfl, by decide, by decide, fun D hD => ?_⟩
    refine lc_it walk_rangeN (fun i H2 => H2 D = some (.lst ((List.replicate i true).map V.bl)) ∧ LamX.ExtN H H2 ∧ LamX.Tabs [(Tb, lamQ)] H2) ⟨upd_same, LamX.ExtN.of (Same.new hD), hT.ext (Same.new hD)⟩ (fun _ _ _ _ => trivial) ?_ ?_
    · rintro i x H2 H3 hi ⟨eD, x2, T2⟩ ⟨rfl, rfl⟩
      refine ⟨rfl, _, rfl, _, rfl, ac, ns, i, rfl, extn_seq x2 hs, by omega, hi, fun H4 a s4 na m4 => ?_⟩
      refine ⟨a, rfl, m4, T2.ext s4, fun H5 T5 k5 => ?_⟩
      have nDa : D ≠ a := ne_of_none eD na
      have eD5 := k5 D _ (s4 _ _ eD) nDa (fun ps z => by cases z)
      have x5 : LamX.ExtN H H5 := fun b o e n => k5 b o (s4 _ _ (x2 b o e n)) (ne_of_none (x2 b o e n) na) n
      refine ⟨_, eD5, by rw [List.length_map, List.length_replicate]; exact small1000 (by omega), ?_, fun b o e n => by rw [upd_ne (ne_of_none e hD)]; exact x5 b o e n, tabs_mut eD5 T5⟩
      rw [upd_same, List.replicate_succ', List.map_append]
      rfl
    · rintro H2 ⟨eD, _, _⟩
      refine ⟨D, List.replicate 2 true, rfl, .inl (.inl eD), ?_⟩
      exact q _
end
end Cs
set_option Elab.async false
set_option linter.all false
set_option maxRecDepth 100000
set_option maxHeartbeats 8000000
/-! all defs, and the law's promise -/
namespace Cs
open PySem PySem.Spec PyProof.Rows L2
/-- what the top leaves -/
structure Left (K : PySem.W.Frag) (mg : Str → Option Value) (CF CO CT CN c : Addr) : Prop where
  bn : Bn mg
  dm : mg "divmod" = none
  rp : mg "repr" = none
  zero : Cst K mg "ZERO" 0
  one : Cst K mg "ONE" 1
  letters : GS mg "LETTERS" letters
  lname : GI mg "LONGEST_NAME" 8
  mend : GI mg "MOST_END" 10000
  mcols : GI mg "MOST_COLUMNS" 4
  mrows : GI mg "MOST_ROWS" 8
  mprice : GI mg "MOST_PRICE" 1000
  cF : FrameC K CF
  cO : OutC K CO
  cT : TabC K CT
  nT : mg "Table" = some (.ref CT)
  nS : NsAt K mg CN
  exm : PySem.W.exmOne K (.ref CN) (.ref CN) = some true
  iF : InitAt K mg CF "Frame" "Frame.__init__" sFrInit ["self", "rows", "basis"]
  iO : InitAt K mg CO "Outcome" "Outcome.__init__" sOuInit ["self", "word", "values", "cost", "weights"]
  iT : InitAt K mg CT "Table" "Table.__init__" sTbInit ["self", "columns", "rows"]
  mTu : MethAt K CF "turned" "Frame.turned" sTurned ["self", "place", "column"]
  mPr : MethAt K CF "prices" "Frame.prices" sPrices ["self", "costs"]
  mLv : MethAt K CF "leaving" "Frame.leaving" sLeaving ["self", "column"]
  pCo : PropAt K CT "columns" "Table.columns" sTbCols
  pRo : PropAt K CT "rows" "Table.rows" sTbRows
  kase : CaseAt K mg c
  d_law_aim : DefAt K mg "_law_aim" sLAim ["_law_mug_here", "_law_body_here"]
  d_law_asked : DefAt K mg "_law_asked" (topS 115) ["_law_act_here"]
  d_law_at_most : DefAt K mg "_law_at_most" sLMost ["_law_one", "_law_two"]
  d_law_body : DefAt K mg "_law_body" sLBody ["_law_mug_here", "_law_tall", "_law_wide"]
  d_law_cheapest : DefAt K mg "_law_cheapest" sLCheap ["_law_tall", "_law_wants_here", "_law_fees"]
  d_law_cuts : DefAt K mg "_law_cuts" sLCuts ["_law_tall", "_law_wants_here"]
  d_law_ends : DefAt K mg "_law_ends" sLEnds ["_law_body_here", "_law_k", "_law_sign"]
  d_law_heads : DefAt K mg "_law_heads" sLHeads ["_law_mug_here", "_law_wide"]
  d_law_is_less : DefAt K mg "_law_is_less" sLLess ["_law_one", "_law_two"]
  d_law_low : DefAt K mg "_law_low" sLLow ["_law_top", "_law_bottom"]
  d_law_mug : DefAt K mg "_law_mug" sLMug ["_law_cells", "_law_k"]
  d_law_of : DefAt K mg "_law_of" sLOf ["_law_mug_here", "_law_things"]
  d_law_plus : DefAt K mg "_law_plus" sLPlus ["_law_one", "_law_two"]
  d_law_right : DefAt K mg "_law_right" sRight ["_law_mug_here"]
  d_law_sip : DefAt K mg "_law_sip" sSip ["_law_mug_here", "_law_top"]
  d_law_some_wants : DefAt K mg "_law_some_wants" sLSome ["_law_body_here", "_law_aim_here"]
  d_law_span : DefAt K mg "_law_span" sLSpan ["_law_some"]
  d_law_spots : DefAt K mg "_law_spots" sLSpots ["_law_tall", "_law_wants_here"]
  d_law_stretch : DefAt K mg "_law_stretch" sLStr ["_law_mug_here"]
  d_law_sum : DefAt K mg "_law_sum" sLSum ["_law_shares_here", "_law_numbers"]
  d_law_sure_wants : DefAt K mg "_law_sure_wants" sLSure ["_law_body_here", "_law_aim_here"]
  d_law_table : DefAt K mg "_law_table" sLTab ["_law_heads_here", "_law_body_here"]
  d_law_wants : DefAt K mg "_law_wants" sLWants ["_law_body_here", "_law_aim_here", "_law_marks_here"]
  d_all_corners : DefAt K mg "all_corners" sAllC ["table", "target", "prices"]
  d_begun : DefAt K mg "begun" sBegun ["numbers", "bounds"]
  d_best_price : DefAt K mg "best_price" sBest ["table", "target", "prices"]
  d_both_rows : DefAt K mg "both_rows" sBoth ["table", "target", "near"]
  d_cheapest_of : DefAt K mg "cheapest_of" sCheap ["table", "rows", "prices"]
  d_check_columns : DefAt K mg "check_columns" sCols ["value"]
  d_check_mix : DefAt K mg "check_mix" sCkMix ["table", "value"]
  d_check_priced : DefAt K mg "check_priced" sCkP ["table", "target", "prices"]
  d_check_prices : DefAt K mg "check_prices" sCkPri ["table", "value"]
  d_check_question : DefAt K mg "check_question" sCkQ ["table", "target"]
  d_check_rows : DefAt K mg "check_rows" sRowsC ["many", "value"]
  d_check_table : DefAt K mg "check_table" sCkTab ["value"]
  d_check_target : DefAt K mg "check_target" sCkTar ["table", "value"]
  d_common : DefAt K mg "common" sCommon ["one", "other"]
  d_corner_rows : DefAt K mg "corner_rows" sCorner ["table", "target", "signs"]
  d_dearest_for : DefAt K mg "dearest_for" sDearFor ["table", "target", "prices"]
  d_dearest_of : DefAt K mg "dearest_of" sDear ["table", "target", "prices"]
  d_ends_at : DefAt K mg "ends_at" sEnds ["table", "place", "end"]
  d_is_above : DefAt K mg "is_above" sIsAbove ["one", "other"]
  d_is_end_stretch : DefAt K mg "is_end_stretch" sEnd ["value"]
  d_is_fraction : DefAt K mg "is_fraction" sFraction ["value"]
  d_is_integer : DefAt K mg "is_integer" sInteger ["value", "least", "greatest"]
  d_is_mix : DefAt K mg "is_mix" sMix ["value", "many"]
  d_is_name : DefAt K mg "is_name" sName ["value"]
  d_is_row : DefAt K mg "is_row" sRow ["value", "many", "names"]
  d_is_share_row : DefAt K mg "is_share_row" sShare ["value", "many"]
  d_is_stretch : DefAt K mg "is_stretch" sStretch ["value", "least", "greatest"]
  d_is_tuple_of : DefAt K mg "is_tuple_of" sTupOf ["value", "many"]
  d_is_whole : DefAt K mg "is_whole" sWhole ["value"]
  d_least_row : DefAt K mg "least_row" sLeastR ["table", "target", "place", "end", "goal"]
  d_less : DefAt K mg "less" sLess ["one", "other", "by"]
  d_lowest : DefAt K mg "lowest" sLowest ["top", "bottom"]
  d_minus : DefAt K mg "minus" sMinus ["one", "other"]
  d_mix_in : DefAt K mg "mix_in" sMixIn ["found"]
  d_most_row : DefAt K mg "most_row" sMost ["table", "target", "place", "end", "goal"]
  d_no_prices : DefAt K mg "no_prices" sNoP ["table"]
  d_over : DefAt K mg "over" sOver ["one", "other"]
  d_plus : DefAt K mg "plus" sPlus ["one", "other"]
  d_possible_found : DefAt K mg "possible_found" sPoss ["table", "target", "prices"]
  d_possible_mix : DefAt K mg "possible_mix" sPossMix ["table", "target"]
  d_price_of : DefAt K mg "price_of" sPriceOf ["table", "prices", "mix"]
  d_settled : DefAt K mg "settled" sSettled ["frame", "costs", "columns"]
  d_signs_of : DefAt K mg "signs_of" sSigns ["many"]
  d_solved : DefAt K mg "solved" sSolved ["numbers", "bounds", "costs"]
  d_sure_found : DefAt K mg "sure_found" sSure ["table", "target", "prices"]
  d_sure_mix : DefAt K mg "sure_mix" sSureMix ["table", "target"]
  d_sure_price : DefAt K mg "sure_price" sSurePrice ["table", "target", "prices"]
  d_times : DefAt K mg "times" sTimes ["one", "other"]
  d_total_of : DefAt K mg "total_of" sTotal ["parts"]
  d_weighed : DefAt K mg "weighed" sWeighed ["parts", "numbers"]
  d_without_fills : DefAt K mg "without_fills" sWithout ["frame", "first"]
  d_worst_price : DefAt K mg "worst_price" sWorst ["table", "target", "prices"]
section
variable {P : Program} {w : World} {K : PySem.W.Frag} {mg : Str → Option Value} {base : Heap}
theorem all_ok {CF CO CT CN c Tb f : Addr} {fd : FuncData} (L : Left K mg CF CO CT CN c) (TB : LamX.TabB base mg c Tb) (F : Fun K "law" "law" sLaw f fd) : FnG P w K mg base 17 f fd ["_law_cells"] (spLaw K Tb) := by
  have B := L.bn
  have common : Cal P w K mg base 1 "common" ["one", "other"] spCommon := c_common L.d_common
  have lowest : Cal P w K mg base 2 "lowest" ["top", "bottom"] (spLowest K) := c_lowest L.d_lowest common B.abs
  have plus : Cal P w K mg base 3 "plus" ["one", "other"] (spTwo K (· + ·)) := c_plus L.d_plus lowest
  have minus : Cal P w K mg base 3 "minus" ["one", "other"] (spTwo K (· - ·)) := c_minus L.d_minus lowest
  have times : Cal P w K mg base 3 "times" ["one", "other"] (spTwo K (· * ·)) := c_times L.d_times lowest
  have above : Cal P w K mg base 1 "is_above" ["one", "other"] (spAbove K) := c_is_above L.d_is_above
  have over := c_over L.d_over times
  have less := c_less L.d_less minus times B.zip L.zero
  have frI : ICal P w K mg base 1 CF "Frame" ["self", "rows", "basis"] (spFrInit CF) := c_frinit L.iF L.cF
  have turned := c_turned L.mTu L.cF frI over less B.enum
  have prices := c_prices L.mPr L.cF less B.zip B.list L.zero
  have leaving := c_leaving L.mLv L.cF over above B.enum
  have settled := c_settled L.d_settled L.cF prices leaving turned B.len
  have without := c_without L.d_without_fills L.cF turned B.len B.range L.zero
  have begun := c_begun L.d_begun times B.enum B.zip B.len B.range L.zero L.one
  have ouI : ICal P w K mg base 1 CO "Outcome" ["self", "word", "values", "cost", "weights"] (spOuInit CO) := c_ouinit L.iO L.cO
  have solved := c_solved L.d_solved L.cF L.cO frI ouI begun settled without minus B.enum B.zip B.len B.range B.list B.tup L.zero L.one
  have whole : Cal P w K mg base 1 "is_whole" ["value"] spWhole := c_whole L.d_is_whole B
  have integer := c_integer L.d_is_integer whole
  have tupof : Cal P w K mg base 1 "is_tuple_of" ["value", "many"] (spTupOf K) := c_tupof L.d_is_tuple_of B
  have fraction := c_fraction L.d_is_fraction B tupof whole common
  have stretch := c_stretch L.d_is_stretch B tupof integer
  have totalL := c_totalL L.d_total_of L.zero plus
  have totalT := c_totalT L.d_total_of L.zero plus
  have share := c_share L.d_is_share_row B tupof fraction
  have mix := c_mix L.d_is_mix L.one share totalT
  have weighed := c_weighed L.d_weighed B times totalL
  have name : Cal P w K mg base 1 "is_name" ["value"] spName := c_name L.d_is_name B L.letters L.lname
  have signs : Cal P w K mg base 1 "signs_of" ["many"] (spSigns K) := c_signs L.d_signs_of B
  have ends := c_end L.d_is_end_stretch L.mend stretch
  have cols := c_cols L.d_check_columns B L.mcols name
  have row := c_row L.d_is_row B tupof name ends
  have rowsC := c_rowsC L.d_check_rows B L.mrows row
  have tbcols : PCal P w K mg base 1 CT "columns" "heads" := c_tbcols L.pCo L.cT
  have tbrows : PCal P w K mg base 1 CT "rows" "lines" := c_tbrows L.pRo L.cT
  have tbI := c_tbinit L.iT L.cT B cols rowsC
  have cktab : Cal P w K mg base 1 "check_table" ["value"] (spCkTab CT) := c_cktab L.d_check_table L.cT B L.nT
  have ckmix := c_ckmix L.d_check_mix L.cT B tbrows mix
  have cktar := c_cktar L.d_check_target L.cT B L.mend tbcols tupof stretch
  have ckpri := c_ckpri L.d_check_prices L.cT B L.mprice tbrows tupof integer
  have endsAt := c_ends L.d_ends_at L.cT tbrows
  have most := c_most L.d_most_row endsAt
  have least := c_leastR L.d_least_row endsAt
  have cheap := c_cheap L.d_cheapest_of L.cT B L.one tbrows solved
  have corner := c_corner L.d_corner_rows B most least
  have both := c_both L.d_both_rows L.cT B tbcols most least
  have nop := c_nop L.d_no_prices L.cT B tbrows
  have sureF := c_sure L.d_sure_found both cheap
  have possF := c_poss L.d_possible_found both cheap
  have mixin : Cal P w K mg base 1 "mix_in" ["found"] (spMixIn K CO) := c_mixin L.d_mix_in L.cO
  have ckq := c_ckq L.d_check_question cktab cktar
  have ckp := c_ckp L.d_check_priced ckq ckpri
  have priceof := c_priceof L.d_price_of cktab ckpri ckmix weighed
  have suremix := c_suremix L.d_sure_mix ckq mixin sureF nop
  have possmix := c_possmix L.d_possible_mix ckq mixin possF nop
  have allc := c_allc L.d_all_corners L.cT B tbcols signs corner cheap
  have dear := c_dear L.d_dearest_of L.cO allc above
  have ns : NsOk P w K mg base CN := c_ns L.nS
  have dearfor := c_dearfor L.d_dearest_for ns ckp dear
  have worst := c_worst L.d_worst_price L.cO dearfor
  have lends : Cal P w K mg base 1 "_law_ends" ["_law_body_here", "_law_k", "_law_sign"] (spLEnds K) := c_lends L.d_law_ends B
  have lwants := c_lwants L.d_law_wants B lends
  have lsure := c_lsure L.d_law_sure_wants B lwants
  have lsome := c_lsome L.d_law_some_wants B lends
  have llow : Cal P w K mg base 1 "_law_low" ["_law_top", "_law_bottom"] (spLowest K) := c_llow L.d_law_low B
  have lplus := c_lplus L.d_law_plus llow
  have lless : Cal P w K mg base 1 "_law_is_less" ["_law_one", "_law_two"] (spLLess K) := c_lless L.d_law_is_less
  have lmost := c_lmost L.d_law_at_most lless
  have lsum := c_lsum L.d_law_sum B lplus
  have lspan := c_lspan L.d_law_span lless
  have lcuts : Cal P w K mg base 1 "_law_cuts" ["_law_tall", "_law_wants_here"] (spLCuts K) := c_lcuts L.d_law_cuts B
  have lspots := c_lspots L.d_law_spots B lcuts llow
  have lcheap := c_lcheap L.d_law_cheapest lspots lsum lspan
  have sip : Cal P w K mg base 1 "_law_sip" ["_law_mug_here", "_law_top"] spSip := c_sip L.d_law_sip B L.dm
  have lof := c_lof L.d_law_of B sip
  have lstr := c_lstr L.d_law_stretch sip lof
  have lbody := c_lbody L.d_law_body B lstr
  have lheads := c_lheads L.d_law_heads B sip
  have ltab := c_ltab L.d_law_table B tbI
  have laim := c_laim L.d_law_aim B lof
  have lmug : Cal P w K mg base 1 "_law_mug" ["_law_cells", "_law_k"] (spLMug K) := c_lmug L.d_law_mug B
  have M : Defs P w K mg base CT CO CN := ⟨B, lheads, ltab, lof, lcheap, lsome, lsure, c_best L.d_best_price L.cO ckp possF, c_sureprice L.d_sure_price L.cO ckp sureF,
    CalK.of L.d_best_price kw_best fun f fd F => f_best F L.cO ckp possF, CalK.of L.d_sure_price kw_sure fun f fd F => f_sureprice F L.cO ckp sureF, possmix, suremix, lmost, priceof, worst, L.d_law_asked, by
      obtain ⟨_, _, _, _, _, g⟩ := L.nS.ex
      exact g, L.exm, L.rp⟩
  have kase := c_case L.kase M TB
  have right := c_right L.d_law_right B sip lof lbody laim kase
  exact f_law F B lmug right
end
end Cs
set_option Elab.async false
set_option linter.all false
set_option maxRecDepth 100000
set_option maxHeartbeats 8000000
/-! the end of the row: a promise that knows the guards, one table of code objects -/
namespace Cs
open PySem PySem.Spec PyProof.Rows L2
section
variable {P : Program} {w : World} {K : PySem.W.Frag} {mg mb : Str → Option Value} {k : Nat} {fa sc c Tb : Addr} {fd : FuncData} {x : Str} {sp : Sp} {s : Shared} {vs : List Value} {ns : List Int}
/-- the script's list, as the law gets it -/
def scO (vs : List Value) : Obj := { cls := .type "list", data := .seq vs.toArray }
/-- an empty table -/
def tbO : Obj := { cls := .none, data := .fields #[] }
/-- the heap ahead of the law: the table, and the script where nothing written says it -/
def h0 (K : PySem.W.Frag) (sc Tb : Addr) (vs : List Value) (ns : List Int) : Hp := fun b =>
  if b = Tb then some (.tbl #[]) else if b = sc ∧ K.lookup sc = none then some (.frz (scO vs) (.lst (ns.map V.int))) else none
theorem h0_tb : h0 K sc Tb vs ns Tb = some (.tbl #[]) := if_pos rfl
theorem h0_cases (b : Addr) (u : HO) (h : h0 K sc Tb vs ns b = some u) : (b = Tb ∧ u = .tbl #[]) ∨ (b = sc ∧ K.lookup sc = none ∧ u = .frz (scO vs) (.lst (ns.map V.int))) := by
  unfold h0 at h
  by_cases e : b = Tb
  · rw [if_pos e] at h
    exact .inl ⟨e, (Option.some.inj h).symm⟩
  · rw [if_neg e] at h
    by_cases e2 : b = sc ∧ K.lookup sc = none
    · rw [if_pos e2] at h
      exact .inr ⟨e2.1, e2.2, (Option.some.inj h).symm⟩
    · rw [if_neg e2] at h
      cases h
theorem h0_none {b : Addr} (h1 : b ≠ Tb) (h2 : b ≠ sc) : h0 K sc Tb vs ns b = none := by
  unfold h0
  rw [if_neg h1, if_neg (fun z => h2 z.1)]
/-- what is known ahead of the law -/
structure Ahead (P : Program) (K : PySem.W.Frag) (mg mb : Str → Option Value) (sc c Tb : Addr) (vs : List Value) (ns : List Int) (s : Shared) : Prop where
  KX : K.In s.heap
  glob : s.heap.Ns mainGlobals mg
  bult : s.heap.Ns builtinsNs mb
  boot : ∀ x : Str, x ≠ "__name__" → mb x = bootBuiltins x
  lim : s.heap.NoLimit
  gens : s.gens = #[]
  tab : s.heap.get? Tb = some tbO
  noT : K.lookup Tb = none
  hd : PySem.W.CodeHd s.heap c Tb
  bm : ∃ (m : Addr) (o : Obj), mg "__builtins__" = some (.ref m) ∧ m ≠ builtinsNs ∧ s.heap.get? m = some o ∧ o.cls = .type "module" ∧ o.dict = some builtinsNs ∧ o.data = .plain
  script : s.heap.get? sc = some (scO vs)
  are : IntsAre vs ns
  len : ns.length ≤ sizeLine
theorem Ahead.ne (R : Ahead P K mg mb sc c Tb vs ns s) : sc ≠ Tb := fun z => by
  have e := R.script
  rw [z, R.tab] at e
  have e2 : Data.fields #[] = Data.seq vs.toArray _ := congrArg Obj.data (Option.some.inj e)
  cases e2
/-- neither the script nor the table -/
theorem Ahead.out (R : Ahead P K mg mb sc c Tb vs ns s) {b : Addr} {o : Obj} (e : s.heap.get? b = some o) (h1 : ∀ xs n, o.data ≠ .seq xs n) (h2 : o.data ≠ .fields #[]) : h0 K sc Tb vs ns b = none := by
  refine h0_none (fun z => ?_) (fun z => ?_)
  · rw [z, R.tab] at e
    cases e
    exact h2 rfl
  · rw [z, R.script] at e
    cases e
    exact h1 _ _ rfl
theorem Ahead.into (R : Ahead P K mg mb sc c Tb vs ns s) {b : Addr} {o : Obj} (e : s.heap.get? b = some o) (h1 : ∀ xs n, o.data ≠ .seq xs n) (h2 : o.data ≠ .fields #[]) : (hidT s.heap (h0 K sc Tb vs ns)).get? b = some o := hidT_get e (R.out e h1 h2)
theorem Ahead.names (R : Ahead P K mg mb sc c Tb vs ns s) {b : Addr} {m : Str → Option Value} (h : s.heap.Ns b m) : (hidT s.heap (h0 K sc Tb vs ns)).Ns b m := by
  obtain ⟨o, es, ep, e, d, r⟩ := h
  refine ⟨o, es, ep, R.into e (fun xs n z => ?_) (fun z => ?_), d, r⟩ <;> · rw [d] at z; cases z
theorem Ahead.hok (R : Ahead P K mg mb sc c Tb vs ns s) : HOk P w (h0 K sc Tb vs ns) s.heap := fun b u h => by
  rcases h0_cases b u h with ⟨rfl, rfl⟩ | ⟨rfl, hk, rfl⟩
  · exact R.tab
  · exact ⟨R.script, by rw [List.length_map]; exact R.len, vs, _, vals_ints R.are, R.script⟩
theorem Ahead.seq (R : Ahead P K mg mb sc c Tb vs ns s) : SqL K (h0 K sc Tb vs ns) sc (ns.map V.int) := by
  cases hk : K.lookup sc with
  | none =>
    refine .inl (.inr ⟨scO vs, ?_⟩)
    unfold h0
    rw [if_neg R.ne, if_pos ⟨rfl, hk⟩]
  | some o =>
    have e := R.KX sc o hk
    rw [R.script] at e
    cases e
    exact .inr ⟨_, vs.toArray, _, hk, rfl, rfl, rfl, by rw [List.size_toArray, R.are.length]; exact R.len, by simpa using vals_ints R.are⟩
theorem Ahead.written (R : Ahead P K mg mb sc c Tb vs ns s) : K.In (hidT s.heap (h0 K sc Tb vs ns)) := fun b o e => by
  refine hidT_get (R.KX b o e) ?_
  cases q : h0 K sc Tb vs ns b with
  | none => rfl
  | some u =>
    rcases h0_cases b u q with ⟨rfl, _⟩ | ⟨rfl, hk, _⟩
    · rw [R.noT] at e
      cases e
    · rw [hk] at e
      cases e
theorem Ahead.tabB (R : Ahead P K mg mb sc c Tb vs ns s) : LamX.TabB (hidT s.heap (h0 K sc Tb vs ns)) mg c Tb := by
  refine ⟨?_, ?_, fun z => ?_⟩
  · obtain ⟨o, us, fl, tf, fg, tg, inF, tx, tt, e1, r1, r2, r3, r⟩ := R.hd
    refine ⟨o, us, fl, tf, fg, tg, inF, tx, tt, R.into e1 (fun xs n z => ?_) (fun z => ?_), r1, r2, r3, r⟩
    · rw [r2] at z
      cases z
    · rw [r2] at z
      cases z
      simp at r3
  · obtain ⟨m, o, b1, b2, b3, b4, b5, b6⟩ := R.bm
    refine ⟨m, o, b1, b2, fun z => ?_, fun z => ?_, R.into b3 (fun xs n z => ?_) (fun z => ?_), b4, b5, b6⟩
    · obtain ⟨o2, es, ep, e, d, _⟩ := R.glob
      rw [z, e] at b3
      cases b3
      rw [d] at b6
      cases b6
    · rw [z, R.tab] at b3
      cases b3
      cases b6
    · rw [b6] at z
      cases z
    · rw [b6] at z
      cases z
  · obtain ⟨o, es, ep, e, d, _⟩ := R.glob
    rw [z, R.tab] at e
    cases e
    cases d
/-- the law's call, from its promise -/
theorem own_end (R : Ahead P K mg mb sc c Tb vs ns s) (hr : Room k callerA) (F : ∀ base : Heap, LamX.TabB base mg c Tb → FnG P w K mg base k fa fd [x] sp) (hb : ∀ (s : Shared) (u : Value), BindsTo s fd ⟨[u], []⟩ [(x, u)])
    (hsp : ∀ H : Hp, H Tb = some (.tbl #[]) → SqL K H sc (ns.map V.int) → sp [.ref sc] H (fun v _ => v = .bl true) fun _ _ _ => False) :
    codeAny (model P w) callerA (.call (.ref fa) ⟨[.ref sc], []⟩) (fun r s' => r = .ok (.ret (.bool true)) ∧ OldK s.heap s'.heap ∧ s'.os = s.os ∧ AllBare s'.gens) s := by
  have hM : L2.Mod K mg (hidT s.heap (h0 K sc Tb vs ns)) := by
    obtain ⟨mc, l1, l2⟩ := R.lim
    exact ⟨R.written, R.names R.glob, ⟨mb, R.names R.bult, R.boot⟩, ⟨mc, R.names l1, l2⟩⟩
  have e0 : Env0 P w K mg (hidT s.heap (h0 K sc Tb vs ns)) callerA [] s (h0 K sc Tb vs ns) := ⟨rfl, hM, fun b o e => of_hidT e, Nat.le_of_eq (hidT_size _ _), trivial, fun b h => (by cases h), R.hok, .of_eq R.gens⟩
  have run := (F _ R.tabB).run callerA [] s (h0 K sc Tb vs ns) ⟨[.ref sc], []⟩ [.ref sc] [.ref sc] (fun v _ => v = .bl true) (fun _ _ _ => False) hr rfl e0 (hb s (.ref sc)) (.cons rfl .nil) (hsp _ h0_tb R.seq)
  refine codeAny_mono run fun r s' h => ?_
  match r, h with
  | .error e, h => exact (show False from h).elim
  | .ok .next, h => exact (show False from h).elim
  | .ok .brk, h => exact (show False from h).elim
  | .ok .cont, h => exact (show False from h).elim
  | .ok (.ret u), h =>
    obtain ⟨v, H', hos, bare, un, hok', rv, hv⟩ := h
    replace hv : v = .bl true := hv
    subst hv
    obtain rfl : u = Value.bool true := rv
    have stays : ∀ b o, b ≠ Tb → s.heap.get? b = some o → s'.heap.get? b = some o := fun b o nb e => by
      cases q : h0 K sc Tb vs ns b with
      | none => exact un.keep b o e q (fun z => by cases z) (by simp)
      | some u =>
        rcases h0_cases b u q with ⟨rfl, _⟩ | ⟨rfl, _, rfl⟩
        · exact (nb rfl).elim
        · obtain ⟨e2, _⟩ := hok' _ _ (un.frzs _ _ _ q)
          rw [R.script] at e
          cases e
          exact e2
    obtain ⟨more, hm⟩ := un.tbls Tb #[] h0_tb
    have hm2 := hok' Tb _ hm
    refine ⟨rfl, ⟨fun b o e => ?_, fun b o e => ?_⟩, hos, bare⟩
    · by_cases z : b = Tb
      · subst z
        have e' := e
        rw [R.tab] at e'
        cases e'
        exact .inr (.inl ⟨(R.hd.tab R.tab).isCodeTable, rfl, #[], more, rfl, hm2⟩)
      · exact .inl (stays b o z e)
    · by_cases z : b = Tb
      · subst z
        exact ⟨_, hm2⟩
      · exact ⟨o, stays b o z e⟩
end
end Cs
set_option Elab.async false
set_option linter.all false
set_option maxRecDepth 100000
set_option maxHeartbeats 8000000
/-! what the top leaves, from the head's facts; the end -/
namespace Cs
open PySem PySem.Spec PyProof.Rows L2
theorem fun_of {K : PySem.W.Frag} {x q : Str} {st : Stmt} {f : Addr} {fd : FuncData} (F : FunD K x q (defArgs st) (defBody st) (defScope st) [] [] f fd) : Fun K x q st f fd := by
  obtain ⟨oc, od, dV, kV, doc, pm, an, cdv, ct, osl, e, lk, hcd, hD, _⟩ := F.ex
  rcases hD with ⟨_, rfl⟩ | ⟨n, _⟩
  · exact ⟨⟨oc, od, kV, doc, pm, an, cdv, ct, osl, e, lk, hcd⟩, F.kp⟩
  · exact (n rfl).elim
theorem refs_eq (l : List Value) : refsA l = refsAE l := by
  induction l with
  | nil => rfl
  | cons a r ih =>
    cases a with
    | ref c => exact ih
    | _ => rfl
theorem ns_cls {K : PySem.W.Frag} {C : Addr} (h : nsB K C = true) : ∃ nm q N bs bm sn sub ab col dd k0 k1 k2 k3 k5, K.lookup C = some (excClassObj nm q C N bs bm true sn sub ab col dd k0 k1 k2 k3 k5 "ArithmeticError.__new__") ∧ refsAE bm = true := by
  unfold nsB at h
  cases lk : K.lookup C with
  | none =>
    rw [lk] at h
    cases h
  | some o =>
    obtain ⟨oc, od, dt, sl⟩ := o
    rw [lk] at h
    cases oc with
    | type t =>
      cases dt with
      | cls cd =>
        obtain ⟨h1, h⟩ := He.ba h
        obtain ⟨h2, h⟩ := He.ba h
        obtain ⟨h3, h⟩ := He.ba h
        obtain ⟨h4, h5⟩ := He.ba h
        have e1 : t = "type" := of_decide_eq_true h1
        subst e1
        obtain ⟨nm, bs, mro, N, q, hdct, sn, sub, ab, col, del⟩ := cd
        have e2 : hdct = true := h2
        have e3 : del = false := by
          cases del with
          | false => rfl
          | true => cases h3
        subst e2 e3
        obtain ⟨l⟩ := sl
        cases mro with
        | nil => cases h4
        | cons a0 bm =>
          cases a0 with
          | ref C' =>
            obtain ⟨h6, h7⟩ := He.ba h4
            have e4 : C' = C := of_decide_eq_true h6
            subst e4
            match l, h5 with
            | [k0, k1, k2, k3, some (.builtin b), k5], h5 =>
              have e5 : b = "ArithmeticError.__new__" := of_decide_eq_true h5
              subst e5
              exact ⟨nm, q, N, bs, bm, sn, sub, ab, col, od, k0, k1, k2, k3, k5, rfl, by rw [← refs_eq]; exact h7⟩
          | _ => cases h4
      | _ => cases h
    | _ => cases dt <;> cases h
section
variable {h : Heap} {K : PySem.W.Frag} {mg : Str → Option Value}
theorem SaysO.acc (S : SaysO h K) (k : Nat) {f : He.Fa} (e : faA[k]? = some f) : f.ok K = true := S.fac f (List.mem_append_right _ (List.mem_of_getElem? e))
theorem SaysO.glo (S : SaysO h K) (k : Nat) {x : Str} (e : glo[k]? = some x) : (He.Fa.glo x).ok K = true := S.fac _ (List.mem_append_left _ (List.mem_append_left _ (List.mem_map.mpr ⟨x, List.mem_of_getElem? e, rfl⟩)))
theorem SaysO.free (S : SaysO h K) (k : Nat) {x : Str} (e : free[k]? = some x) : (He.Fa.free x).ok K = true := S.fac _ (List.mem_append_left _ (List.mem_append_right _ (List.mem_map.mpr ⟨x, List.mem_of_getElem? e, rfl⟩)))
theorem SaysO.fund (S : SaysO h K) (k : Nat) {d : He.DefD} (e : fn[k]? = some d) : ∃ fd, FunD K d.name d.qual d.params d.body d.scope (d.dvs K) (d.kws K) (He.fAd K d.at_) fd := by
  obtain ⟨a, b⟩ := S.defs d (List.mem_of_getElem? e)
  exact He.DefD.funD a b
theorem SaysO.defAt (S : SaysO h K) (KX : K.In h) (G : h.Ns mainGlobals mg) {x : Str} {i : Nat} {ps : List Str} (k j : Nat) (e : fn[k]? = some (dDef x i)) (e2 : Cs.glo[j]? = some x)
    (hb : ∀ (kV doc pm : Value) (an : Option Addr) (cdv ct : Value) (us : List Value), us.length = ps.length → bindArgs (PySem.W.fnOf x x (defArgs (topS i)) (defBody (topS i)) (defScope (topS i)) .none kV doc pm an cdv ct) ⟨us, []⟩ = pure (ps.zip us)) : DefAt K mg x (topS i) ps := by
  obtain ⟨fd, F⟩ := S.fund k e
  have F' : Fun K x x (topS i) (He.ga K x) fd := fun_of F
  exact ⟨He.ga K x, fd, F', F'.binds hb, He.glo_ok KX G (S.glo j e2)⟩
theorem SaysO.meth (S : SaysO h K) {C m q : Str} {i j : Nat} (k : Nat) (e : fn[k]? = some (dMet C m q i j)) : ∃ fd, Fun K m q (inClass (topS i) j) (He.ma K (He.ga K C) m) fd := by
  obtain ⟨fd, F⟩ := S.fund k e
  exact ⟨fd, fun_of F⟩
theorem prop_at {C f q : Str} {st : Stmt} (h : prB K C f q = true) (e : fnG K (gt K C f) = some (f, q, defArgs st, .stmts (defBody st), defScope st, mainGlobals, [], builtinsNs))
    (hb : ∀ (kV doc pm : Value) (an : Option Addr) (cdv ct : Value) (us : List Value), us.length = 1 → bindArgs (PySem.W.fnOf f q (defArgs st) (defBody st) (defScope st) .none kV doc pm an cdv ct) ⟨us, []⟩ = pure ((["self"] : List Str).zip us)) : PropAt K (He.ga K C) f q st := by
  obtain ⟨h1, h⟩ := He.ba h
  obtain ⟨h2, h⟩ := He.ba h
  obtain ⟨h3, h⟩ := He.ba h
  obtain ⟨h4, h⟩ := He.ba h
  obtain ⟨h5, h6⟩ := He.ba h
  have p : PropOf K (He.ga K C) f (He.ma K (He.ga K C) f) (gt K C f) := by
    refine ⟨He.eqO_ok h1, He.eqO_ok h2, of_decide_eq_true h3, ?_⟩
    unfold gt
    split at h4
    · rename_i g rest eq
      exact ⟨rest, by rw [eq]⟩
    · cases h4
  have F : ∃ fd, Fun K f q st (gt K C f) fd := by
    unfold fnG at e
    cases lk : K.lookup (gt K C f) with
    | none =>
      rw [lk] at e
      cases e
    | some o =>
      obtain ⟨oc, od, dt, osl⟩ := o
      rw [lk] at e h6
      cases dt with
      | func fd =>
        obtain ⟨n1, n2, n3, n4, n5, n6, n7, n8, n9, n10, n11, n12, n13, n14, n15⟩ := fd
        have e2 : (some (n1, n2, n3, n4, n5, n6, n7, n15) : He.FnW) = some (f, q, defArgs st, .stmts (defBody st), defScope st, mainGlobals, [], builtinsNs) := e
        simp only [Option.some.injEq, Prod.mk.injEq] at e2
        obtain ⟨g1, g2, g3, g4, g5, g6, g7, g8⟩ := e2
        subst g1 g2 g3 g4 g5 g6 g7 g8
        have c3 : (PySem.W.codeIn K n13 n2 && (He.dflB K n8 [] && He.kwdB K n9 [])) = true := h6
        obtain ⟨k1, k2⟩ := He.ba c3
        obtain ⟨k3, _⟩ := He.ba k2
        rcases He.dflB_ok k3 with ⟨_, e8⟩ | ⟨n, _⟩
        · subst e8
          exact ⟨_, ⟨oc, od, n9, n10, n11, n12, n13, n14, osl, rfl, lk, k1⟩, h5⟩
        · exact (n rfl).elim
      | _ => cases e
  obtain ⟨fd, F⟩ := F
  exact ⟨_, _, fd, F, F.binds hb, p⟩
theorem cst_of (KX : K.In h) (G : h.Ns mainGlobals mg) {x : Str} {q : Rat} {t b : Int} (hg : (He.Fa.glo x).ok K = true) (ht : He.tupB K x [.int t, .int b] = true) (e1 : t = q.num) (e2 : b = q.den) : Cst K mg x q := by
  refine ⟨He.ga K x, He.glo_ok KX G hg, fun H => ⟨He.ga K x, rfl, ?_⟩⟩
  rw [← e1, ← e2]
  exact He.tupB_ok ht H
/-- the code object of the case, its table -/
def cC (K : PySem.W.Frag) : Addr := (He.cT K ("_law_case_right", none)).1
def cP (K : PySem.W.Frag) : Addr := (He.cT K ("_law_case_right", none)).2
theorem leftAt (KX : K.In h) (G : h.Ns mainGlobals mg) (S : SaysO h K) : Left K mg (He.ga K "Frame") (He.ga K "Outcome") (He.ga K "Table") (He.ga K "NotServed") (cC K) := by
  obtain ⟨x1, e⟩ := He.ba S.ex
  obtain ⟨x2, e⟩ := He.ba e
  obtain ⟨x3, e⟩ := He.ba e
  obtain ⟨x4, e⟩ := He.ba e
  obtain ⟨x5, e⟩ := He.ba e
  obtain ⟨x6, e⟩ := He.ba e
  obtain ⟨x7, e⟩ := He.ba e
  obtain ⟨x8, e⟩ := He.ba e
  obtain ⟨x9, e⟩ := He.ba e
  obtain ⟨x10, e⟩ := He.ba e
  obtain ⟨x11, e⟩ := He.ba e
  obtain ⟨x12, e⟩ := He.ba e
  obtain ⟨x13, x14⟩ := He.ba e
  exact {
    bn := ⟨He.free_ok KX G (S.free 0 rfl), He.free_ok KX G (S.free 1 rfl), He.free_ok KX G (S.free 2 rfl), He.free_ok KX G (S.free 3 rfl), He.free_ok KX G (S.free 4 rfl), He.free_ok KX G (S.free 5 rfl), He.free_ok KX G (S.free 6 rfl), He.free_ok KX G (S.free 7 rfl), He.free_ok KX G (S.free 8 rfl), He.free_ok KX G (S.free 9 rfl), He.free_ok KX G (S.free 10 rfl), He.free_ok KX G (S.free 11 rfl)⟩
    dm := He.free_ok KX G (S.free 12 rfl)
    rp := He.free_ok KX G (S.free 13 rfl)
    zero := cst_of KX G (S.glo 77 rfl) x1 (by decide +kernel) (by decide +kernel)
    one := cst_of KX G (S.glo 78 rfl) x2 (by decide +kernel) (by decide +kernel)
    letters := He.str_ok KX G (S.acc 0 rfl)
    lname := He.int_ok KX G (S.acc 1 rfl)
    mend := He.int_ok KX G (S.acc 2 rfl)
    mcols := He.int_ok KX G (S.acc 3 rfl)
    mrows := He.int_ok KX G (S.acc 4 rfl)
    mprice := He.int_ok KX G (S.acc 5 rfl)
    cF := ⟨He.cls_ok (S.acc 6 rfl), He.noat_ok (S.acc 7 rfl), He.noat_ok (S.acc 8 rfl)⟩
    cO := ⟨He.cls_ok (S.acc 9 rfl), He.noat_ok (S.acc 10 rfl), He.noat_ok (S.acc 11 rfl), He.noat_ok (S.acc 12 rfl), He.noat_ok (S.acc 13 rfl)⟩
    cT := ⟨He.cls_ok (S.acc 14 rfl), He.noat_ok (S.acc 15 rfl), He.noat_ok (S.acc 16 rfl), He.eqO_ok x3, He.eqO_ok x4, of_decide_eq_true x5, of_decide_eq_true x6, of_decide_eq_true x7⟩
    nT := He.glo_ok KX G (S.glo 81 rfl)
    nS := by
      obtain ⟨fd, F⟩ := S.meth 83 rfl
      exact ⟨_, fd, F, F.binds (fun _ _ _ _ _ _ us hl => match us, hl with | [_], _ => rfl), ⟨ns_cls x10, of_decide_eq_true x11, of_decide_eq_true x12, S.acc 24 rfl, He.eqO_ok x13, of_decide_eq_true x14⟩, He.glo_ok KX G (S.glo 82 rfl)⟩
    exm := He.exm_ok (S.acc 23 rfl)
    iF := by
      obtain ⟨fd, F⟩ := S.meth 77 rfl
      exact ⟨_, fd, F, F.binds (fun _ _ _ _ _ _ us hl => match us, hl with | [_, _, _], _ => rfl), He.mkr_ok (S.acc 17 rfl), He.glo_ok KX G (S.glo 79 rfl)⟩
    iO := by
      obtain ⟨fd, F⟩ := S.meth 81 rfl
      exact ⟨_, fd, F, F.binds (fun _ _ _ _ _ _ us hl => match us, hl with | [_, _, _, _, _], _ => rfl), He.mkr_ok (S.acc 18 rfl), He.glo_ok KX G (S.glo 80 rfl)⟩
    iT := by
      obtain ⟨fd, F⟩ := S.meth 82 rfl
      exact ⟨_, fd, F, F.binds (fun _ _ _ _ _ _ us hl => match us, hl with | [_, _, _], _ => rfl), He.mkr_ok (S.acc 19 rfl), He.glo_ok KX G (S.glo 81 rfl)⟩
    mTu := by
      obtain ⟨fd, F⟩ := S.meth 78 rfl
      exact ⟨_, fd, F, F.binds (fun _ _ _ _ _ _ us hl => match us, hl with | [_, _, _], _ => rfl), He.meth_ok (S.acc 20 rfl)⟩
    mPr := by
      obtain ⟨fd, F⟩ := S.meth 79 rfl
      exact ⟨_, fd, F, F.binds (fun _ _ _ _ _ _ us hl => match us, hl with | [_, _], _ => rfl), He.meth_ok (S.acc 21 rfl)⟩
    mLv := by
      obtain ⟨fd, F⟩ := S.meth 80 rfl
      exact ⟨_, fd, F, F.binds (fun _ _ _ _ _ _ us hl => match us, hl with | [_, _], _ => rfl), He.meth_ok (S.acc 22 rfl)⟩
    pCo := prop_at x8 S.gC (fun _ _ _ _ _ _ us hl => match us, hl with | [_], _ => rfl)
    pRo := prop_at x9 S.gR (fun _ _ _ _ _ _ us hl => match us, hl with | [_], _ => rfl)
    kase := by
      obtain ⟨fd, F⟩ := S.fund 75 (d := dDef "_law_case_right" 116) rfl
      obtain ⟨oc, od, dV, kV, doc, pm, an, cdv, ct, osl, rfl, lk, hcd, hD, _⟩ := F.ex
      rcases hD with ⟨_, rfl⟩ | ⟨n, _⟩
      · obtain ⟨c, rfl⟩ := He.codeIn_ref hcd
        have ec : c = cC K := (He.codeOf_eq (p := ("_law_case_right", none)) lk rfl).symm
        subst ec
        have F' : Fun K "_law_case_right" "_law_case_right" sCase (He.ga K "_law_case_right") _ := ⟨⟨oc, od, kV, doc, pm, an, _, ct, osl, rfl, lk, hcd⟩, F.kp⟩
        exact ⟨_, oc, od, an, osl, kV, doc, pm, ct, lk, hcd, F.kp, F'.binds (fun _ _ _ _ _ _ us hl => match us, hl with | [_, _, _], _ => rfl), He.glo_ok KX G (S.glo 75 rfl)⟩
      · exact (n rfl).elim
    d_law_aim := S.defAt KX G 0 0 rfl rfl (fun _ _ _ _ _ _ us hl => match us, hl with | [_, _], _ => rfl)
    d_law_asked := S.defAt KX G 1 1 rfl rfl (fun _ _ _ _ _ _ us hl => match us, hl with | [_], _ => rfl)
    d_law_at_most := S.defAt KX G 2 2 rfl rfl (fun _ _ _ _ _ _ us hl => match us, hl with | [_, _], _ => rfl)
    d_law_body := S.defAt KX G 3 3 rfl rfl (fun _ _ _ _ _ _ us hl => match us, hl with | [_, _, _], _ => rfl)
    d_law_cheapest := S.defAt KX G 4 4 rfl rfl (fun _ _ _ _ _ _ us hl => match us, hl with | [_, _, _], _ => rfl)
    d_law_cuts := S.defAt KX G 5 5 rfl rfl (fun _ _ _ _ _ _ us hl => match us, hl with | [_, _], _ => rfl)
    d_law_ends := S.defAt KX G 6 6 rfl rfl (fun _ _ _ _ _ _ us hl => match us, hl with | [_, _, _], _ => rfl)
    d_law_heads := S.defAt KX G 7 7 rfl rfl (fun _ _ _ _ _ _ us hl => match us, hl with | [_, _], _ => rfl)
    d_law_is_less := S.defAt KX G 8 8 rfl rfl (fun _ _ _ _ _ _ us hl => match us, hl with | [_, _], _ => rfl)
    d_law_low := S.defAt KX G 9 9 rfl rfl (fun _ _ _ _ _ _ us hl => match us, hl with | [_, _], _ => rfl)
    d_law_mug := S.defAt KX G 10 10 rfl rfl (fun _ _ _ _ _ _ us hl => match us, hl with | [_, _], _ => rfl)
    d_law_of := S.defAt KX G 11 11 rfl rfl (fun _ _ _ _ _ _ us hl => match us, hl with | [_, _], _ => rfl)
    d_law_plus := S.defAt KX G 12 12 rfl rfl (fun _ _ _ _ _ _ us hl => match us, hl with | [_, _], _ => rfl)
    d_law_right := S.defAt KX G 13 13 rfl rfl (fun _ _ _ _ _ _ us hl => match us, hl with | [_], _ => rfl)
    d_law_sip := S.defAt KX G 14 14 rfl rfl (fun _ _ _ _ _ _ us hl => match us, hl with | [_, _], _ => rfl)
    d_law_some_wants := S.defAt KX G 15 15 rfl rfl (fun _ _ _ _ _ _ us hl => match us, hl with | [_, _], _ => rfl)
    d_law_span := S.defAt KX G 16 16 rfl rfl (fun _ _ _ _ _ _ us hl => match us, hl with | [_], _ => rfl)
    d_law_spots := S.defAt KX G 17 17 rfl rfl (fun _ _ _ _ _ _ us hl => match us, hl with | [_, _], _ => rfl)
    d_law_stretch := S.defAt KX G 18 18 rfl rfl (fun _ _ _ _ _ _ us hl => match us, hl with | [_], _ => rfl)
    d_law_sum := S.defAt KX G 19 19 rfl rfl (fun _ _ _ _ _ _ us hl => match us, hl with | [_, _], _ => rfl)
    d_law_sure_wants := S.defAt KX G 20 20 rfl rfl (fun _ _ _ _ _ _ us hl => match us, hl with | [_, _], _ => rfl)
    d_law_table := S.defAt KX G 21 21 rfl rfl (fun _ _ _ _ _ _ us hl => match us, hl with | [_, _], _ => rfl)
    d_law_wants := S.defAt KX G 22 22 rfl rfl (fun _ _ _ _ _ _ us hl => match us, hl with | [_, _, _], _ => rfl)
    d_all_corners := S.defAt KX G 23 23 rfl rfl (fun _ _ _ _ _ _ us hl => match us, hl with | [_, _, _], _ => rfl)
    d_begun := S.defAt KX G 24 24 rfl rfl (fun _ _ _ _ _ _ us hl => match us, hl with | [_, _], _ => rfl)
    d_best_price := S.defAt KX G 25 25 rfl rfl (fun _ _ _ _ _ _ us hl => match us, hl with | [_, _, _], _ => rfl)
    d_both_rows := S.defAt KX G 26 26 rfl rfl (fun _ _ _ _ _ _ us hl => match us, hl with | [_, _, _], _ => rfl)
    d_cheapest_of := S.defAt KX G 27 27 rfl rfl (fun _ _ _ _ _ _ us hl => match us, hl with | [_, _, _], _ => rfl)
    d_check_columns := S.defAt KX G 28 28 rfl rfl (fun _ _ _ _ _ _ us hl => match us, hl with | [_], _ => rfl)
    d_check_mix := S.defAt KX G 29 29 rfl rfl (fun _ _ _ _ _ _ us hl => match us, hl with | [_, _], _ => rfl)
    d_check_priced := S.defAt KX G 30 30 rfl rfl (fun _ _ _ _ _ _ us hl => match us, hl with | [_, _, _], _ => rfl)
    d_check_prices := S.defAt KX G 31 31 rfl rfl (fun _ _ _ _ _ _ us hl => match us, hl with | [_, _], _ => rfl)
    d_check_question := S.defAt KX G 32 32 rfl rfl (fun _ _ _ _ _ _ us hl => match us, hl with | [_, _], _ => rfl)
    d_check_rows := S.defAt KX G 33 33 rfl rfl (fun _ _ _ _ _ _ us hl => match us, hl with | [_, _], _ => rfl)
    d_check_table := S.defAt KX G 34 34 rfl rfl (fun _ _ _ _ _ _ us hl => match us, hl with | [_], _ => rfl)
    d_check_target := S.defAt KX G 35 35 rfl rfl (fun _ _ _ _ _ _ us hl => match us, hl with | [_, _], _ => rfl)
    d_common := S.defAt KX G 36 36 rfl rfl (fun _ _ _ _ _ _ us hl => match us, hl with | [_, _], _ => rfl)
    d_corner_rows := S.defAt KX G 37 37 rfl rfl (fun _ _ _ _ _ _ us hl => match us, hl with | [_, _, _], _ => rfl)
    d_dearest_for := S.defAt KX G 38 38 rfl rfl (fun _ _ _ _ _ _ us hl => match us, hl with | [_, _, _], _ => rfl)
    d_dearest_of := S.defAt KX G 39 39 rfl rfl (fun _ _ _ _ _ _ us hl => match us, hl with | [_, _, _], _ => rfl)
    d_ends_at := S.defAt KX G 40 40 rfl rfl (fun _ _ _ _ _ _ us hl => match us, hl with | [_, _, _], _ => rfl)
    d_is_above := S.defAt KX G 41 41 rfl rfl (fun _ _ _ _ _ _ us hl => match us, hl with | [_, _], _ => rfl)
    d_is_end_stretch := S.defAt KX G 42 42 rfl rfl (fun _ _ _ _ _ _ us hl => match us, hl with | [_], _ => rfl)
    d_is_fraction := S.defAt KX G 43 43 rfl rfl (fun _ _ _ _ _ _ us hl => match us, hl with | [_], _ => rfl)
    d_is_integer := S.defAt KX G 44 44 rfl rfl (fun _ _ _ _ _ _ us hl => match us, hl with | [_, _, _], _ => rfl)
    d_is_mix := S.defAt KX G 45 45 rfl rfl (fun _ _ _ _ _ _ us hl => match us, hl with | [_, _], _ => rfl)
    d_is_name := S.defAt KX G 46 46 rfl rfl (fun _ _ _ _ _ _ us hl => match us, hl with | [_], _ => rfl)
    d_is_row := S.defAt KX G 47 47 rfl rfl (fun _ _ _ _ _ _ us hl => match us, hl with | [_, _, _], _ => rfl)
    d_is_share_row := S.defAt KX G 48 48 rfl rfl (fun _ _ _ _ _ _ us hl => match us, hl with | [_, _], _ => rfl)
    d_is_stretch := S.defAt KX G 49 49 rfl rfl (fun _ _ _ _ _ _ us hl => match us, hl with | [_, _, _], _ => rfl)
    d_is_tuple_of := S.defAt KX G 50 50 rfl rfl (fun _ _ _ _ _ _ us hl => match us, hl with | [_, _], _ => rfl)
    d_is_whole := S.defAt KX G 51 51 rfl rfl (fun _ _ _ _ _ _ us hl => match us, hl with | [_], _ => rfl)
    d_least_row := S.defAt KX G 52 52 rfl rfl (fun _ _ _ _ _ _ us hl => match us, hl with | [_, _, _, _, _], _ => rfl)
    d_less := S.defAt KX G 53 53 rfl rfl (fun _ _ _ _ _ _ us hl => match us, hl with | [_, _, _], _ => rfl)
    d_lowest := S.defAt KX G 54 54 rfl rfl (fun _ _ _ _ _ _ us hl => match us, hl with | [_, _], _ => rfl)
    d_minus := S.defAt KX G 55 55 rfl rfl (fun _ _ _ _ _ _ us hl => match us, hl with | [_, _], _ => rfl)
    d_mix_in := S.defAt KX G 56 56 rfl rfl (fun _ _ _ _ _ _ us hl => match us, hl with | [_], _ => rfl)
    d_most_row := S.defAt KX G 57 57 rfl rfl (fun _ _ _ _ _ _ us hl => match us, hl with | [_, _, _, _, _], _ => rfl)
    d_no_prices := S.defAt KX G 58 58 rfl rfl (fun _ _ _ _ _ _ us hl => match us, hl with | [_], _ => rfl)
    d_over := S.defAt KX G 59 59 rfl rfl (fun _ _ _ _ _ _ us hl => match us, hl with | [_, _], _ => rfl)
    d_plus := S.defAt KX G 60 60 rfl rfl (fun _ _ _ _ _ _ us hl => match us, hl with | [_, _], _ => rfl)
    d_possible_found := S.defAt KX G 61 61 rfl rfl (fun _ _ _ _ _ _ us hl => match us, hl with | [_, _, _], _ => rfl)
    d_possible_mix := S.defAt KX G 62 62 rfl rfl (fun _ _ _ _ _ _ us hl => match us, hl with | [_, _], _ => rfl)
    d_price_of := S.defAt KX G 63 63 rfl rfl (fun _ _ _ _ _ _ us hl => match us, hl with | [_, _, _], _ => rfl)
    d_settled := S.defAt KX G 64 64 rfl rfl (fun _ _ _ _ _ _ us hl => match us, hl with | [_, _, _], _ => rfl)
    d_signs_of := S.defAt KX G 65 65 rfl rfl (fun _ _ _ _ _ _ us hl => match us, hl with | [_], _ => rfl)
    d_solved := S.defAt KX G 66 66 rfl rfl (fun _ _ _ _ _ _ us hl => match us, hl with | [_, _, _], _ => rfl)
    d_sure_found := S.defAt KX G 67 67 rfl rfl (fun _ _ _ _ _ _ us hl => match us, hl with | [_, _, _], _ => rfl)
    d_sure_mix := S.defAt KX G 68 68 rfl rfl (fun _ _ _ _ _ _ us hl => match us, hl with | [_, _], _ => rfl)
    d_sure_price := S.defAt KX G 69 69 rfl rfl (fun _ _ _ _ _ _ us hl => match us, hl with | [_, _, _], _ => rfl)
    d_times := S.defAt KX G 70 70 rfl rfl (fun _ _ _ _ _ _ us hl => match us, hl with | [_, _], _ => rfl)
    d_total_of := S.defAt KX G 71 71 rfl rfl (fun _ _ _ _ _ _ us hl => match us, hl with | [_], _ => rfl)
    d_weighed := S.defAt KX G 72 72 rfl rfl (fun _ _ _ _ _ _ us hl => match us, hl with | [_, _], _ => rfl)
    d_without_fills := S.defAt KX G 73 73 rfl rfl (fun _ _ _ _ _ _ us hl => match us, hl with | [_, _], _ => rfl)
    d_worst_price := S.defAt KX G 74 74 rfl rfl (fun _ _ _ _ _ _ us hl => match us, hl with | [_, _, _], _ => rfl) }
end
/-- the goal that the head leaves -/
theorem walk_own {l : PySem.W.OpenLaw} {q : Program} {loose : List Str} {XP : (Str → Option Value) → Heap → Prop} {d : DefRec} (hn : l.most = some 63) (hdf : d.params.defaults = []) (hname : d.name = "law") :
    PySem.W.WalkO q loose XP hkO.says l.row.toRowW d [] (fun f vs => PySem.call f vs) := by
  refine Att.attach_callB hn hdf fun w s₀ s₁ mg mb fa o pm cd doc a vs ns G Y ho hd hcd hmg hobj hints hlen hbits hg => ?_
  obtain ⟨K, KX, S⟩ := Y
  rw [hname] at hmg
  have e := hmg.symm.trans (He.glo_ok KX G.T.g (S.glo 76 rfl))
  cases e
  obtain ⟨fd, F⟩ := S.fund 76 (d := dDef "law" 118) rfl
  have F' : Fun K "law" "law" sLaw (He.ga K "law") fd := fun_of F
  have hb := FunD.bindsA (ps := ["_law_cells"]) F fun _ _ _ _ _ _ us hl => match us, hl with | [_], _ => rfl
  have R : Ahead l.prog K mg mb a (cC K) (cP K) vs ns s₁ := ⟨KX, G.T.g, G.T.b, G.T.builtins, G.T.nolimit, hg, S.empty, S.out, PySem.W.codeHd_of_K KX S.hd, G.T.bmain, hobj, hints, Nat.le_trans hlen (by decide)⟩
  exact own_end R (k := 17) ⟨rfl, by decide, by decide⟩ (fun base TB => all_ok (leftAt KX G.T.g S) TB F') (fun s u => hb s [u] rfl) fun H hT hs => ⟨a, ns, rfl, hs, hlen, fun p hp => by rw [List.mem_singleton.mp hp]; exact LamX.TabS.nil hT, fun _ => rfl⟩
end Cs
set_option Elab.async false
open PySem PySem.W PySem.Calls PyProof.Rows
set_option maxRecDepth 100000 in
set_option maxHeartbeats 0 in
theorem PySem.Challenge.cw_cornersure_k32_whole_best_and_sure_price_holds : PySem.Challenge.rw_cornersure_k32_whole_best_and_sure_price.Holds := by
  w_on; o_law
  refine HandSHeadRun.head_any (r := Cs.RR) (q := view Cs.RR.prog [118]) (H := Cs.hkO) (ob := Cs.ob) (M := 10000) (loose := Cs.names) (d := HandSHeadRun.topDef Cs.RR.prog 118) (kwd := []) Cs.ob_eq
    (by kernel_rfl) (fun s => by kernel_rfl) Cs.run (by kernel_rfl) (by kernel_rfl) (by kernel_rfl) (by rfl) (by first | assumption | decide +kernel) (by decide +kernel) ⟨rfl, rfl, rfl, rfl, rfl, by decide +kernel⟩ ?hw ?hc
  case hw => w_witness2
  case hc => exact Cs.walk_own (l := PySem.Challenge.rw_cornersure_k32_whole_best_and_sure_price) rfl (by kernel_rfl) (by kernel_rfl)
