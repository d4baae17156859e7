import PyProof.Rows.All
import Wide.All
import OpenK.AllK
import Wide.FinOn
import PySem.Challenge.RW_runcolumns_k64_whole_refused_more
import HandS.ForMost
import HandS.ForExc
import HandS.IsInst
import HandS.Property
import HandS.TryMany
import HandS.Codes
import HandS.Evl
import HandS.Style
import HandS.Zip
import HandS.Conv
import HandS.TupAny
import HandS.TupSets
import HandS.Wide
import HandS.EndTab
import HandS.Nested
import HandS.ExcField
import HandS.Deep
import HandS.Flow
import HandS.ExcInit
import KE.GoesNew
import KE.GoesMore
import HandS.TupMul
import PyProof.ListMulRoad
import PyProof.FactsAll.tuple_2
import KE.KDictKeyed
import KE.KDictDisplayH
import KE.GoesNewDict
import KE.GoesDict
import KE.KExcSuper
import KE.KRevSl
import PyProof.AutoSeq1
import HandS.EndOwn
import KE.KNestM
import KE.RegKSuper
set_option Elab.async false
set_option linter.all false
set_option maxRecDepth 100000
set_option maxHeartbeats 4000000
/-! Base of the proof: the text by places, names of the module, calls that may raise, what the values are. -/
namespace G
open PySem PySem.Spec PyProof.Rows L2

/-! ### the text -/
def top (i : Nat) : Stmt := PySem.Challenge.pw_runcolumns_k64_whole_refused_more.main.body.getD i (.Pass ⟨0, 0, 0, 0⟩)

/-! ### built-in names -/
theorem bi_isinstance : bootBuiltins "isinstance" = some (.builtin "isinstance") := by decide +kernel
theorem bi_len : bootBuiltins "len" = some (.builtin "len") := by decide +kernel
theorem bi_all : bootBuiltins "all" = some (.builtin "all") := by decide +kernel
theorem bi_any : bootBuiltins "any" = some (.builtin "any") := by decide +kernel
theorem bi_sum : bootBuiltins "sum" = some (.builtin "sum") := by decide +kernel
theorem bi_min : bootBuiltins "min" = some (.builtin "min") := by decide +kernel
theorem bi_max : bootBuiltins "max" = some (.builtin "max") := by decide +kernel
theorem bi_sorted : bootBuiltins "sorted" = some (.builtin "sorted") := by decide +kernel
theorem bi_int : bootBuiltins "int" = some (.type "int") := by decide +kernel
theorem bi_bool : bootBuiltins "bool" = some (.type "bool") := by decide +kernel
theorem bi_str : bootBuiltins "str" = some (.type "str") := by decide +kernel
theorem bi_tuple : bootBuiltins "tuple" = some (.type "tuple") := by decide +kernel
theorem bi_list : bootBuiltins "list" = some (.type "list") := by decide +kernel
theorem bi_dict : bootBuiltins "dict" = some (.type "dict") := by decide +kernel
theorem bi_range : bootBuiltins "range" = some (.type "range") := by decide +kernel
theorem bi_zip : bootBuiltins "zip" = some (.type "zip") := by decide +kernel
theorem bi_enumerate : bootBuiltins "enumerate" = some (.type "enumerate") := by decide +kernel
/-- the built-in names that the text uses are the built-in ones -/
structure Names (mg : Str → Option Value) : Prop where
  isinstance : mg "isinstance" = none
  len : mg "len" = none
  all : mg "all" = none
  any : mg "any" = none
  sum : mg "sum" = none
  min : mg "min" = none
  max : mg "max" = none
  sorted : mg "sorted" = none
  int : mg "int" = none
  bool : mg "bool" = none
  str : mg "str" = none
  tuple : mg "tuple" = none
  list : mg "list" = none
  dict : mg "dict" = none
  range : mg "range" = none
  zip : mg "zip" = none
  enumerate : mg "enumerate" = none
  mrows : ∃ u, mg "MOST_ROWS" = some u ∧ RelV (.int 10) u
  mcols : ∃ u, mg "MOST_COLUMNS" = some u ∧ RelV (.int 4) u
  mval : ∃ u, mg "MOST_VALUE" = some u ∧ RelV (.int 6) u
  mprice : ∃ u, mg "MOST_PRICE" = some u ∧ RelV (.int 9) u
  mpieces : ∃ u, mg "MOST_PIECES" = some u ∧ RelV (.int 6) u

/-! ### a def that may raise, called by its name -/
structure CalX (P : Program) (w : World) (K : PySem.W.Frag) (mg : Str → Option Value) (base : Heap) (k : Nat) (x : Str) (sp : Sp) : Prop where
  ex : ∃ (f : Addr) (fd : FuncData) (ps : List Str), FnOk P w K mg base (L2.CX P w) k f fd ps sp ∧ mg x = some (.ref f) ∧ PySem.W.keepIn K (.ref f) = true ∧ Binds K fd ps []
section
variable {P : Program} {w : World} {K : PySem.W.Frag} {mg : Str → Option Value} {base : Heap}
/-- a module's def: where it stands -/
structure Def (K : PySem.W.Frag) (mg : Str → Option Value) (x : Str) (i : Nat) : Prop where
  ex : ∃ (f : Addr) (fd : FuncData), L2.Fun K x x (top i) f fd ∧ mg x = some (.ref f)
/-- THE RULE for a def -/
theorem calx {x : Str} {i : Nat} {N ps : List Str} {k : Nat} {sp : Sp} (D : Def K mg x i) (S : C8.scC N ps (defScope (top i)) = true) (len : ∀ vs H Q E, sp vs H Q E → vs.length = ps.length)
    (hb : ∀ (kV doc pm : Value) (an : Option Addr) (cdv ct : Value) (us : List Value), us.length = ps.length → bindArgs (PySem.W.fnOf x x (defArgs (top i)) (defBody (top i)) (defScope (top i)) .none kV doc pm an cdv ct) ⟨us, []⟩ = pure (ps.zip us))
    (hbody : ∀ (f : Addr) (cdv : Value) (A : Around) (outer : List Env) (s : Shared) (H : Hp) (vs : List V) (Q : VK) (E : XK), Room k (A.deeper (envOfC x (defScope (top i)) s.heap.objs.size f cdv)) → N.Nodup →
      Takes (cxOf (L2.CX P w) P w K mg base N x (defScope (top i)) f cdv A outer s H E) (fun cls d _ H' => E cls d H') →
      PassesOwn (model P w) (A.deeper (envOfC x (defScope (top i)) s.heap.objs.size f cdv)) (envOfC x (defScope (top i)) s.heap.objs.size f cdv) (cxOf (L2.CX P w) P w K mg base N x (defScope (top i)) f cdv A outer s H E).xe → sp vs H Q E →
      ∃ t, PSs (cxOf (L2.CX P w) P w K mg base N x (defScope (top i)) f cdv A outer s H E) (defBody (top i)) t ∧ t { nx := fun _ H' => Q .non H', rt := Q } (start N vs) H) : CalX P w K mg base (k + 1) x sp := by
  obtain ⟨f, fd, F, hm⟩ := D.ex
  have sc := C8.fnScope_by S
  exact ⟨f, fd, ps, F.okX sc len fun cdv A outer s H vs Q E hr h => hbody f cdv A outer s H vs Q E hr sc.nd (takes_of rfl rfl rfl rfl) (passes_of rfl) h, hm, F.kp, F.binds hb⟩
end
section
variable {X : Cx} {k j : Nat} {x : Str} {sp : Sp} {W : WX} {p pos : Pos} {e : Expr} {es : List Expr} {t : TA}
/-- f(..), by name -/
theorem pe_cx (c : CalX X.prog X.w X.K X.mg X.base k x sp) (hr : Room j X.A) (hk : k ≤ j) (tk : Takes X W) (ha : PA X (e :: es) t) (hg : Gl X x := by rfl)
    (hdb : (x == ("__debug__" : Str)) = false := by decide) (he : starEach (e :: es) X.env = (false, eval e X.env) :: starEach es X.env := by rfl) (hpl : (backTo pos (starEach es X.env)).any (·.1) = false := by rfl) :
    PE X (.Call (.Name x p) (e :: es) [] pos) (tCallS sp (WE W) t) := by
  obtain ⟨f, fd, ps, F, hm, kp, b⟩ := c.ex
  exact pe_callS F (hr.mono hk) hg hm kp b (fun σ => passAt tk σ) ha hdb he hpl
theorem CalX.imp {P : Program} {w : World} {K : PySem.W.Frag} {mg : Str → Option Value} {base : Heap} {sp' : Sp} (c : CalX P w K mg base k x sp) (h : ∀ vs H Q E, sp' vs H Q E → sp vs H Q E) : CalX P w K mg base k x sp' := by
  obtain ⟨f, fd, ps, F, hm, kp, b⟩ := c.ex
  exact ⟨f, fd, ps, F.imp h, hm, kp, b⟩
end
/-- in a comprehension's block nothing raises -/
theorem tk0 {X : Cx} : Takes X (fun _ _ _ _ => False) := fun _ _ ⟨_, _, _, _, _, _, _, _, _, _, _, _, _, _, _, _, z⟩ => z.elim

/-! ### what a number is -/
/-- is_number -/
def isNum : V → Int → Int → Bool
  | .int i, lo, hi => decide (lo ≤ i) && decide (i ≤ hi)
  | _, _, _ => false
end G


set_option Elab.async false
set_option linter.all false
set_option maxRecDepth 100000
set_option maxHeartbeats 4000000
/-! Rules of our own, 1: exceptions of the program, isinstance by tables, len, properties and methods of tables. -/
namespace G
open PySem PySem.Spec PyProof.Rows L2

/-! ### what the readings say, opened -/
theorem cxOf_K {CX : CXT} {P : Program} {w : World} {K : PySem.W.Frag} {mg : Str → Option Value} {base : Heap} {N : List Str} {qual : Str} {scope : Scope} {f : Addr} {cd : Value} {A : Around} {outer : List Env} {s : Shared} {H : Hp} {E : XK} : (cxOf CX P w K mg base N qual scope f cd A outer s H E).K = K := rfl
theorem ex_eq {α : Sort u} {a : α} {p : α → Prop} : (∃ x, a = x ∧ p x) = p a := propext ⟨fun ⟨_, e, h⟩ => e ▸ h, fun h => ⟨a, rfl, h⟩⟩
theorem ref_inj {a b : Addr} : (V.ref a = V.ref b) = (a = b) := propext ⟨fun h => V.ref.inj h, fun h => congrArg _ h⟩
theorem ty_inj {a b : String} : (V.ty a = V.ty b) = (a = b) := propext ⟨fun h => V.ty.inj h, fun h => congrArg _ h⟩

/-! ### exceptions of the program's own classes that have no __init__ -/
structure ExcC (K : PySem.W.Frag) (mg : Str → Option Value) (x : Str) (C : Addr) : Prop where
  g : mg x = some (.ref C)
  xin : PySem.W.excIn K C [.type "ValueError", .type "Exception", .type "BaseException", .type "object"] "ValueError.__new__" = true
  kp : PySem.W.keepIn K (.ref C) = true
  sb : PySem.W.subIn K (.ref C) (.type "BaseException") = some true
  ty : PySem.W.typeIn K (.ref C) = some (.type "type")
/-- raise X('..') -/
theorem ps_rz {X : Cx} {C : Addr} {x m : Str} {W : WX} {j : Nat} {p p2 pos pos2 : Pos} (c : ExcC X.K X.mg x C) (tk : Takes X W) (hc : X.calm = true := by rfl) (hg : Gl X x := by rfl) (hdb : (x == ("__debug__" : Str)) = false := by decide) :
    PS X (.Raise (some (.Call (.Name x p) [.Constant (.str m) j p2] [] pos)) none pos2) (fun _ σ H => W (.ref C) none σ H) :=
  ps_raise hc tk (pmk_own PySem.F.excBase_ValueError c.xin c.g c.kp (raises_own c.sb c.ty) hg hdb)

/-! ### isinstance, by a table -/
/-- isinstance(x, T), T one of int, bool, tuple, list -/
def isB (H : Hp) : V → String → Bool
  | .bl _, T => T == "bool" || T == "int"
  | .int _, T => T == "int"
  | .ref a, T => match H a with
    | some (.lst _) => T == "list"
    | some (.tup _) => T == "tuple"
    | _ => false
  | _, _ => false
/-- the addresses of the classes that are asked for -/
structure TabK (K : PySem.W.Frag) (CT : Addr) : Prop where
  cl : Cls K CT
  ha : PySem.W.findIn K (.ref CT) "__class__" = some (some (.builtin "object.__class__"))
  hn : PySem.W.specialIn K (.builtin "object.__class__") "__get__" = some (some (.builtin "getset_descriptor.__get__"))
  tk : PySem.W.takesIn K (.builtin "object.__class__") = some true
  hm : PySem.W.mroIn K CT (.type "object") = some true
  kInt : PySem.W.kitOne K (.ref CT) (.type "int") = some false
  kBool : PySem.W.kitOne K (.ref CT) (.type "bool") = some false
  kTup : PySem.W.kitOne K (.ref CT) (.type "tuple") = some false
  kLst : PySem.W.kitOne K (.ref CT) (.type "list") = some false
  kSelf : PySem.W.kitOne K (.ref CT) (.ref CT) = some true
  kN : PySem.W.kitOne K (.type "NoneType") (.ref CT) = some false
  kB : PySem.W.kitOne K (.type "bool") (.ref CT) = some false
  kI : PySem.W.kitOne K (.type "int") (.ref CT) = some false
  kS : PySem.W.kitOne K (.type "str") (.ref CT) = some false
  kL : PySem.W.kitOne K (.type "list") (.ref CT) = some false
  kT : PySem.W.kitOne K (.type "tuple") (.ref CT) = some false
  kD : PySem.W.kitOne K (.type "dict") (.ref CT) = some false
/-- a value whose type is known: None, a bool, an int, a text, a list, a tuple, a dict, a table -/
inductive Tg (CT : Addr) (H : Hp) : V → Prop where
  | non : Tg CT H .non
  | bl (b : Bool) : Tg CT H (.bl b)
  | int (i : Int) : Tg CT H (.int i)
  | str (s : Str) : Tg CT H (.str s)
  | lst {a : Addr} {xs : List V} (h : H a = some (.lst xs)) : Tg CT H (.ref a)
  | tup {a : Addr} {xs : List V} (h : H a = some (.tup xs)) : Tg CT H (.ref a)
  | dK {a : Addr} {kvs : List (Key × V)} (h : H a = some (.dK kvs)) : Tg CT H (.ref a)
  | tab {a dx : Addr} {fs : List (Str × V)} (h : H a = some (.ins CT dx fs)) : Tg CT H (.ref a)
theorem Tg.same {CT : Addr} {H H' : Hp} {v : V} (g : Tg CT H v) (e : Same H H') : Tg CT H' v := by
  cases g with
  | non => exact .non
  | bl b => exact .bl b
  | int i => exact .int i
  | str s => exact .str s
  | lst h => exact .lst (e _ _ h)
  | tup h => exact .tup (e _ _ h)
  | dK h => exact .dK (e _ _ h)
  | tab h => exact .tab (e _ _ h)
theorem isB_same {CT : Addr} {H H' : Hp} {v : V} {T : String} (g : Tg CT H v) (e : Same H H') : isB H' v T = isB H v T := by
  cases g with
  | non => rfl
  | bl b => rfl
  | int i => rfl
  | str s => rfl
  | lst h => unfold isB; simp only [h, e _ _ h]
  | tup h => unfold isB; simp only [h, e _ _ h]
  | dK h => unfold isB; simp only [h, e _ _ h]
  | tab h => unfold isB; simp only [h, e _ _ h]
/-- is it a table -/
def isT (CT : Addr) (H : Hp) : V → Bool
  | .ref a => match H a with
    | some (.ins C _ _) => decide (C = CT)
    | _ => false
  | _ => false
def rIsB (CT : Addr) : List V → Hp → VK → Prop := fun xs H Q => ∃ x T, xs = [x, .ty T] ∧ Tg CT H x ∧ (T = "int" ∨ T = "bool" ∨ T = "tuple" ∨ T = "list") ∧ Q (.bl (isB H x T)) H
def rIsT (CT : Addr) : List V → Hp → VK → Prop := fun xs H Q => ∃ x, xs = [x, .ref CT] ∧ Tg CT H x ∧ Q (.bl (isT CT H x)) H
/-- isinstance(x, (list, tuple)) -/
def rIsLT (CT : Addr) : List V → Hp → VK → Prop := fun xs H Q => ∃ x tp, xs = [x, .ref tp] ∧ H tp = some (.tup [.ty "list", .ty "tuple"]) ∧ Tg CT H x ∧ Q (.bl (isB H x "list" || isB H x "tuple")) H
section
variable {X : Cx} {CT : Addr}
theorem tyO (T : TabK X.K CT) {H : Hp} {a dx : Addr} {fs : List (Str × V)} (h : H a = some (.ins CT dx fs)) : TyX X.K H (.ref a) (.ref CT) := .base (.ins h T.cl T.ha T.hn T.tk T.hm)
theorem call_isB (T : TabK X.K CT) : CallR X (.builtin "isinstance") (rIsB CT) := by
  intro pins s σ H xs us Q I r h
  obtain ⟨x, T', rfl, g, hT, q⟩ := h
  refine call_isi pins s σ H _ us Q I r ?_
  cases g with
  | non => simp only [isB] at q; rcases hT with rfl | rfl | rfl | rfl <;> exact ⟨_, _, _, _, _, rfl, .ty _, .base .non, kit_ty (by decide +kernel), q⟩
  | bl b => simp only [isB] at q; rcases hT with rfl | rfl | rfl | rfl <;> exact ⟨_, _, _, _, _, rfl, .ty _, .base (.bl b), kit_ty (by decide +kernel), q⟩
  | int i => simp only [isB] at q; rcases hT with rfl | rfl | rfl | rfl <;> exact ⟨_, _, _, _, _, rfl, .ty _, .base (.int i), kit_ty (by decide +kernel), q⟩
  | str z => simp only [isB] at q; rcases hT with rfl | rfl | rfl | rfl <;> exact ⟨_, _, _, _, _, rfl, .ty _, .base (.str z), kit_ty (by decide +kernel), q⟩
  | lst ha =>
    simp only [isB, ha] at q
    rcases hT with rfl | rfl | rfl | rfl <;> exact ⟨_, _, _, _, _, rfl, .ty _, .base (.lst ha), kit_ty (by decide +kernel), q⟩
  | tup ha =>
    simp only [isB, ha] at q
    rcases hT with rfl | rfl | rfl | rfl <;> exact ⟨_, _, _, _, _, rfl, .ty _, .base (.tup ha), kit_ty (by decide +kernel), q⟩
  | dK ha =>
    simp only [isB, ha] at q
    rcases hT with rfl | rfl | rfl | rfl <;> exact ⟨_, _, _, _, _, rfl, .ty _, .base (.dK ha), kit_ty (by decide +kernel), q⟩
  | tab ha =>
    simp only [isB, ha] at q
    rcases hT with rfl | rfl | rfl | rfl
    · exact ⟨_, _, _, _, _, rfl, .ty _, tyO T ha, T.kInt, q⟩
    · exact ⟨_, _, _, _, _, rfl, .ty _, tyO T ha, T.kBool, q⟩
    · exact ⟨_, _, _, _, _, rfl, .ty _, tyO T ha, T.kTup, q⟩
    · exact ⟨_, _, _, _, _, rfl, .ty _, tyO T ha, T.kLst, q⟩
theorem call_isT (T : TabK X.K CT) : CallR X (.builtin "isinstance") (rIsT CT) := by
  intro pins s σ H xs us Q I r h
  obtain ⟨x, rfl, g, q⟩ := h
  refine call_isi pins s σ H _ us Q I r ?_
  cases g with
  | non => simp only [isT] at q; exact ⟨_, _, _, _, _, rfl, .own CT, .base .non, T.kN, q⟩
  | bl b => simp only [isT] at q; exact ⟨_, _, _, _, _, rfl, .own CT, .base (.bl b), T.kB, q⟩
  | int i => simp only [isT] at q; exact ⟨_, _, _, _, _, rfl, .own CT, .base (.int i), T.kI, q⟩
  | str z => simp only [isT] at q; exact ⟨_, _, _, _, _, rfl, .own CT, .base (.str z), T.kS, q⟩
  | lst ha =>
    simp only [isT, ha] at q
    exact ⟨_, _, _, _, _, rfl, .own CT, .base (.lst ha), T.kL, q⟩
  | tup ha =>
    simp only [isT, ha] at q
    exact ⟨_, _, _, _, _, rfl, .own CT, .base (.tup ha), T.kT, q⟩
  | dK ha =>
    simp only [isT, ha] at q
    exact ⟨_, _, _, _, _, rfl, .own CT, .base (.dK ha), T.kD, q⟩
  | tab ha =>
    simp only [isT, ha, decide_true] at q
    exact ⟨_, _, _, _, _, rfl, .own CT, tyO T ha, T.kSelf, q⟩
theorem call_isLT (T : TabK X.K CT) : CallR X (.builtin "isinstance") (rIsLT CT) := by
  intro pins s σ H xs us Q I r h
  obtain ⟨x, tp, rfl, ht, g, q⟩ := h
  refine call_isiT pins s σ H _ us Q I r ?_
  have two : ∀ {t : Value} {b c : Bool}, PySem.W.kitOne X.K t (.type "list") = some b → PySem.W.kitOne X.K t (.type "tuple") = some c → PySem.W.kitAny X.K t [.type "list", .type "tuple"] = some (b || c) := fun {t b c} h1 h2 => by
    refine kitAny_cons h1 (fun hb => kitAny_cons h2 (fun hc => ?_) fun hc => ?_) fun hb => ?_
    · rw [hb, hc]; exact kitAny_nil
    · rw [hb, hc]; rfl
    · rw [hb]; rfl
  have P : Paired ClsV [.ty "list", .ty "tuple"] [.type "list", .type "tuple"] := .cons (.ty _) (.cons (.ty _) .nil)
  cases g with
  | non => simp only [isB] at q; exact ⟨_, tp, _, _, _, _, rfl, ht, P, .base .non, two (b := false) (c := false) (kit_ty (by decide +kernel)) (kit_ty (by decide +kernel)), q⟩
  | bl b => simp only [isB] at q; exact ⟨_, tp, _, _, _, _, rfl, ht, P, .base (.bl b), two (b := false) (c := false) (kit_ty (by decide +kernel)) (kit_ty (by decide +kernel)), q⟩
  | int i => simp only [isB] at q; exact ⟨_, tp, _, _, _, _, rfl, ht, P, .base (.int i), two (b := false) (c := false) (kit_ty (by decide +kernel)) (kit_ty (by decide +kernel)), q⟩
  | str z => simp only [isB] at q; exact ⟨_, tp, _, _, _, _, rfl, ht, P, .base (.str z), two (b := false) (c := false) (kit_ty (by decide +kernel)) (kit_ty (by decide +kernel)), q⟩
  | lst ha =>
    simp only [isB, ha] at q
    exact ⟨_, tp, _, _, _, _, rfl, ht, P, .base (.lst ha), two (b := true) (c := false) (kit_ty (by decide +kernel)) (kit_ty (by decide +kernel)), q⟩
  | tup ha =>
    simp only [isB, ha] at q
    exact ⟨_, tp, _, _, _, _, rfl, ht, P, .base (.tup ha), two (b := false) (c := true) (kit_ty (by decide +kernel)) (kit_ty (by decide +kernel)), q⟩
  | dK ha =>
    simp only [isB, ha] at q
    exact ⟨_, tp, _, _, _, _, rfl, ht, P, .base (.dK ha), two (b := false) (c := false) (kit_ty (by decide +kernel)) (kit_ty (by decide +kernel)), q⟩
  | tab ha =>
    simp only [isB, ha] at q
    exact ⟨_, tp, _, _, _, _, rfl, ht, P, tyO T ha, two (b := false) (c := false) T.kLst T.kTup, q⟩
end
end G


set_option Elab.async false
set_option linter.all false
set_option maxRecDepth 100000
set_option maxHeartbeats 4000000
/-! Rules of our own, 2: tables: what stands in the heap, width, len. -/
namespace G
open PySem PySem.Spec PyProof.Rows L2

/-! ### a table in the heap -/
/-- a row: a tuple of ints -/
def RowAt (H : Hp) (t : Addr) (row : List Int) : Prop := H t = some (.tup (row.map V.int))
/-- a table with the rows R -/
def Tb (CT : Addr) (H : Hp) (v : V) (R : List (List Int)) : Prop :=
  ∃ a dx r ts, v = .ref a ∧ H a = some (.ins CT dx [("rows", .ref r)]) ∧ H r = some (.tup (ts.map V.ref)) ∧ Paired (RowAt H) ts R
theorem Paired.imp2 {α β : Type} {F G : α → β → Prop} : ∀ {l₁ : List α} {l₂ : List β}, Paired F l₁ l₂ → (∀ a b, F a b → G a b) → Paired G l₁ l₂
  | _, _, .nil, _ => .nil
  | _, _, .cons r t, f => .cons (f _ _ r) (Paired.imp2 t f)
theorem Tb.same {CT : Addr} {H H' : Hp} {v : V} {R : List (List Int)} (t : Tb CT H v R) (e : Same H H') : Tb CT H' v R := by
  obtain ⟨a, dx, r, ts, rfl, h1, h2, h3⟩ := t
  exact ⟨a, dx, r, ts, rfl, e _ _ h1, e _ _ h2, Paired.imp2 h3 fun _ _ h => e _ _ h⟩
theorem Tb.tg {CT : Addr} {H : Hp} {v : V} {R : List (List Int)} (t : Tb CT H v R) : Tg CT H v := by
  obtain ⟨a, dx, r, ts, rfl, h1, h2, h3⟩ := t
  exact .tab h1
theorem Tb.isT {CT : Addr} {H : Hp} {v : V} {R : List (List Int)} (t : Tb CT H v R) : isT CT H v = true := by
  obtain ⟨a, dx, r, ts, rfl, h1, h2, h3⟩ := t
  simp only [G.isT, h1, decide_true]
/-- the rows' shape: 1 to 10 rows of w values, w from 1 to 4, from 0 to 6 -/
structure Shp (R : List (List Int)) (w : Nat) : Prop where
  pos : 1 ≤ R.length
  le : R.length ≤ 10
  w1 : 1 ≤ w
  w4 : w ≤ 4
  row : ∀ r ∈ R, r.length = w ∧ ∀ z ∈ r, 0 ≤ z ∧ z ≤ 6

/-! ### len -/
inductive LenA (K : PySem.W.Frag) (CT : Addr) (H : Hp) : V → Nat → Prop where
  | lst {a : Addr} {xs : List V} (h : SqL K H a xs) : LenA K CT H (.ref a) xs.length
  | tup {a : Addr} {xs : List V} (h : SqT K H a xs) : LenA K CT H (.ref a) xs.length
  | tab {v : V} {R : List (List Int)} (h : Tb CT H v R) : LenA K CT H v R.length
def rLenA (K : PySem.W.Frag) (CT : Addr) : List V → Hp → VK → Prop := fun xs H Q => ∃ x n, xs = [x] ∧ LenA K CT H x n ∧ Q (.int (n : Nat)) H
section
variable {K : PySem.W.Frag} {CT : Addr} {H : Hp} {Q : VK} {a : Addr} {xs : List V}
theorem len_l (h : H a = some (.lst xs)) (q : Q (.int (xs.length : Nat)) H) : rLenA K CT [.ref a] H Q := ⟨_, _, rfl, .lst (SqL.of h), q⟩
theorem len_t (h : H a = some (.tup xs)) (q : Q (.int (xs.length : Nat)) H) : rLenA K CT [.ref a] H Q := ⟨_, _, rfl, .tup (SqT.of h), q⟩
theorem len_s (h : SqL K H a xs) (q : Q (.int (xs.length : Nat)) H) : rLenA K CT [.ref a] H Q := ⟨_, _, rfl, .lst h, q⟩
theorem len_tb {v : V} {R : List (List Int)} (h : Tb CT H v R) (q : Q (.int (R.length : Nat)) H) : rLenA K CT [v] H Q := ⟨_, _, rfl, .tab h, q⟩
end
/-- len(self.rows), len(self.rows[0]) -/
def spLen (CT : Addr) : Sp := fun vs H Q _ => ∃ v R, vs = [v] ∧ Tb CT H v R ∧ Q (.int (R.length : Nat)) H
def spWidth (CT : Addr) : Sp := fun vs H Q _ => ∃ v row R, vs = [v] ∧ Tb CT H v (row :: R) ∧ Q (.int (row.length : Nat)) H
structure TabM (P : Program) (w : World) (K : PySem.W.Frag) (mg : Str → Option Value) (base : Heap) (CT : Addr) : Prop where
  k : TabK K CT
  width : ∃ p g fd, PropOf K CT "width" p g ∧ FnOk P w K mg base (L2.CX P w) 1 g fd ["self"] (spWidth CT) ∧ Binds K fd ["self"] []
  len : ∃ f fd, PySem.W.findIn K (.ref CT) "__len__" = some (some (.ref f)) ∧ PySem.W.isFn K (.ref f) = true ∧ FnOk P w K mg base (L2.CX P w) 1 f fd ["self"] (spLen CT) ∧ Binds K fd ["self"] []
section
variable {X : Cx} {CT : Addr}
theorem call_lenA {j : Nat} (M : TabM X.prog X.w X.K X.mg X.base CT) (hr : Room j X.A) (hj : 2 ≤ j) : CallR X (.builtin "len") (rLenA X.K CT) := by
  intro pins s σ H xs us Q I r h
  obtain ⟨x, n, rfl, l, q⟩ := h
  cases l with
  | lst h => exact call_len pins s σ H _ us Q I r ⟨_, _, rfl, .inl ⟨_, h, rfl⟩, q⟩
  | tup h => exact call_len pins s σ H _ us Q I r ⟨_, _, rfl, .inr ⟨_, h, rfl⟩, q⟩
  | tab h =>
    rename_i R
    obtain ⟨u, rfl, rx⟩ := vals1 r
    have h0 := h
    obtain ⟨a, dx, t, ts, rfl, h1, h2, h3⟩ := h
    cases rx
    obtain ⟨f, fd, hf, hfn, F, b⟩ := M.len
    obtain ⟨m, fr⟩ := I.fr
    obtain ⟨mA, O, _, _, _, _⟩ := ins_get I.hok h1
    obtain ⟨od, J, _⟩ := O.look
    have hlen : R.length ≤ sizeLine := by
      have z : (ts.map V.ref).length ≤ sizeLine := (I.hok _ _ h2).1
      rw [List.length_map, h3.length] at z
      exact z
    rw [sizeLine_eq] at hlen
    refine PySem.W.len_K fr I.ok.mod.kin J hf hfn ?_
    have hb := b s [.ref a] I.kIn rfl
    refine wpAny_call (codeAny_mono (F.run X.A.in1 X.stack s H ⟨[.ref a], []⟩ [.ref a] [.ref a] (fun v H' => v = .int (R.length : Nat) ∧ Q v H') E0 (Room.in1 (hr.mono hj)) I.env0.in1 hb (.cons rfl .nil) ⟨_, R, rfl, h0, rfl, q⟩) fun r s' hq => ?_)
    cases r with
    | error e =>
      have z : L2.CX X.prog X.w X.stack H s E0 e s' := hq
      obtain ⟨_, _, _, _, _, _, _, _, _, _, _, _, z⟩ := z
      exact z.elim
    | ok fl =>
      cases fl with
      | ret u =>
        obtain ⟨v, H', I3, rv, ev, q3⟩ := I.after hq
        subst ev
        obtain ⟨t, rfl⟩ := rv
        exact ⟨⟨by omega, by omega⟩, ⟨.int _, H', I3.tok _, ⟨_, rfl⟩, q3⟩⟩
      | next => exact False.elim hq
      | brk => exact False.elim hq
      | cont => exact False.elim hq
/-- e.width -/
def tWidth (CT : Addr) (ta : TE) : TE := fun σ H Q => ta σ H fun x H1 => ∃ row R, Tb CT H1 x (row :: R) ∧ Q (.int (row.length : Nat)) H1
theorem pe_width {j : Nat} {e : Expr} {pos : Pos} {ta : TE} (M : TabM X.prog X.w X.K X.mg X.base CT) (hr : Room j X.A) (hj : 2 ≤ j) (he : PE X e ta) (hab : attributeBase e "width" X.env (eval e X.env) = eval e X.env := by rfl) :
    PE X (.Attribute e "width" pos) (tWidth CT ta) := by
  obtain ⟨p, g, fd, hp, F, b⟩ := M.width
  refine ⟨fun pins s σ H Q I h => ?_⟩
  refine attr_of hab (thn (he.run pins s σ H _ I h) fun u s1 ⟨x, H1, I1, rx, row, R, t, q⟩ => ?_)
  obtain ⟨a, dx, r, ts, rfl, h1, h2, h3⟩ := id t
  obtain rfl : u = Value.ref a := rx
  exact getprop_ok I1 h1 M.k.cl hp F (hr.mono hj) b .nil passL ⟨_, row, R, rfl, t, q⟩
end

/-! ### what the top has written -/
/-- the classes' addresses -/
structure Ad where
  CT : Addr
  CTh : Addr
  CSe : Addr
  cBT : Addr
  cBI : Addr
  cBC : Addr
  cBO : Addr
  cBP : Addr
  cTL : Addr
  cPc : Addr
  cCE : Addr
structure Txt (K : PySem.W.Frag) (mg : Str → Option Value) (a : Ad) : Prop extends Names mg where
  k : TabK K a.CT
  nR : NoAttr K a.CT "rows"
  vTable : ∃ u, mg "Table" = some u ∧ RelV (.ref a.CT) u
  BadTable : ExcC K mg "BadTable" a.cBT
  BadIndex : ExcC K mg "BadIndex" a.cBI
  BadColumn : ExcC K mg "BadColumn" a.cBC
  BadOrder : ExcC K mg "BadOrder" a.cBO
  BadPrices : ExcC K mg "BadPrices" a.cBP
  TooLarge : ExcC K mg "TooLarge" a.cTL
theorem isB_at {CT : Addr} {v : V} {T : String} {H : Hp} {Q : VK} (hT : T = "int" ∨ T = "bool" ∨ T = "tuple" ∨ T = "list") : rIsB CT [v, .ty T] H Q = (Tg CT H v ∧ Q (.bl (isB H v T)) H) :=
  propext ⟨fun ⟨x, T', e, g, _, q⟩ => by cases e; exact ⟨g, q⟩, fun ⟨g, q⟩ => ⟨v, T, rfl, g, hT, q⟩⟩
theorem isB_int {CT : Addr} {v : V} {H : Hp} {Q : VK} : rIsB CT [v, .ty "int"] H Q = (Tg CT H v ∧ Q (.bl (isB H v "int")) H) := isB_at (.inl rfl)
theorem isB_bool {CT : Addr} {v : V} {H : Hp} {Q : VK} : rIsB CT [v, .ty "bool"] H Q = (Tg CT H v ∧ Q (.bl (isB H v "bool")) H) := isB_at (.inr (.inl rfl))
theorem isB_tuple {CT : Addr} {v : V} {H : Hp} {Q : VK} : rIsB CT [v, .ty "tuple"] H Q = (Tg CT H v ∧ Q (.bl (isB H v "tuple")) H) := isB_at (.inr (.inr (.inl rfl)))
theorem isB_list {CT : Addr} {v : V} {H : Hp} {Q : VK} : rIsB CT [v, .ty "list"] H Q = (Tg CT H v ∧ Q (.bl (isB H v "list")) H) := isB_at (.inr (.inr (.inr rfl)))
theorem isT_at {CT : Addr} {v : V} {H : Hp} {Q : VK} : rIsT CT [v, .ref CT] H Q = (Tg CT H v ∧ Q (.bl (isT CT H v)) H) :=
  propext ⟨fun ⟨x, e, g, q⟩ => by cases e; exact ⟨g, q⟩, fun ⟨g, q⟩ => ⟨v, rfl, g, q⟩⟩
end G


set_option Elab.async false
set_option linter.all false
set_option maxRecDepth 100000
set_option maxHeartbeats 4000000
/-! What a for walks, 3: zip of two and of three, enumerate, over lists and tuples in any mix; the sequences stand still. -/
namespace G
open PySem PySem.Spec PyProof.Rows L2

/-- n turns; each gives a new tuple f i; Sq says that the sequences stand -/
def Itu (n : Nat) (Sq : Hp → Prop) (f : Nat → List V) : It :=
  ⟨fun i H => i < n ∧ Sq H, fun i H v H' => ∃ T, v = .ref T ∧ H T = none ∧ H' = upd H T (.tup (f i)), fun i H => i = n ∧ Sq H⟩
/-- a list or a tuple -/
def SqA (K : PySem.W.Frag) (t : Bool) (H : Hp) (a : Addr) (xs : List V) : Prop := if t = true then SqL K H a xs else SqT K H a xs
theorem SqA.l {K : PySem.W.Frag} {H : Hp} {a : Addr} {xs : List V} (h : H a = some (.lst xs)) : SqA K true H a xs := SqL.of h
theorem SqA.t {K : PySem.W.Frag} {H : Hp} {a : Addr} {xs : List V} (h : H a = some (.tup xs)) : SqA K false H a xs := SqT.of h
theorem SqT.same {K : PySem.W.Frag} {H H' : Hp} {a : Addr} {xs : List V} (h : SqT K H a xs) (e : Same H H') : SqT K H' a xs := by
  rcases h with (h | ⟨o, h⟩) | h
  · exact .inl (.inl (e _ _ h))
  · exact .inl (.inr ⟨o, e _ _ h⟩)
  · exact .inr h
theorem SqA.same {K : PySem.W.Frag} {t : Bool} {H H' : Hp} {a : Addr} {xs : List V} (h : SqA K t H a xs) (e : Same H H') : SqA K t H' a xs := by
  cases t with
  | true => exact e.seq (show SqL K H a xs from h)
  | false => exact SqT.same (show SqT K H a xs from h) e
/-- its iterator at turn i -/
def ItAt (t : Bool) (h : Heap) (it a : Addr) (i : Nat) : Prop := if t = true then h.IsListIter it a i else h.IsTupleIter it a i
def IsSq (t : Bool) (h : Heap) (a : Addr) (items : Array Value) : Prop := if t = true then h.IsList a items else h.IsTuple a items
theorem ItAt.rec {t : Bool} {h : Heap} {it a : Addr} {i : Nat} (x : ItAt t h it a i) : ∃ o vs, h.get? it = some o ∧ o.data = .fields vs := by
  cases t with
  | true => obtain ⟨o, e, _, d⟩ := (show h.IsListIter it a i from x); exact ⟨o, _, e, d⟩
  | false => obtain ⟨o, e, _, d⟩ := (show h.IsTupleIter it a i from x); exact ⟨o, _, e, d⟩
theorem ItAt.keep {t : Bool} {h h' : Heap} {it a : Addr} {i : Nat} (x : ItAt t h it a i) (k : ∀ o, h.get? it = some o → h'.get? it = some o) : ItAt t h' it a i := by
  cases t with
  | true => exact (show h.IsListIter it a i from x).at k
  | false => exact (show h.IsTupleIter it a i from x).at k
def seqObj (t : Bool) (a : Addr) : Obj := if t = true then { cls := .type "list_iterator", data := .fields #[.ref a, .int 0 0] } else { cls := .type "tuple_iterator", data := .fields #[.ref a, .int 0 0] }
theorem begA (t : Bool) (a : Addr) (items : Array Value) : Begins (.ref a) (seqObj t a) fun h => IsSq t h a items := by
  cases t with
  | true => exact begins_list a items
  | false => exact begins_tuple a items
theorem itA0 {t : Bool} {h : Heap} {it a : Addr} (e : h.get? it = some (seqObj t a)) : ItAt t h it a 0 := by
  cases t with
  | true => exact ⟨_, e, rfl, rfl⟩
  | false => exact ⟨_, e, rfl, rfl⟩
theorem drA {prog : Program} {w : World} {A : Around} (t : Bool) (hh : A.handled = none) (it a : Addr) (hne : a ≠ it) (items : Array Value) :
    Draws prog w A it [it, a] items.size (fun i v => items[i]? = some v) (fun i h => ItAt t h it a i ∧ IsSq t h a items) := by
  cases t with
  | true => exact Draws.list hh it a hne items
  | false => exact Draws.tuple hh it a hne items
section
variable {X : Cx} {pins : List (Addr × Obj)} {σ : L2.St} {H : Hp} {s : Shared}
theorem seqA {t : Bool} {a : Addr} {xs : List V} (I : Inv X pins σ H s) (h : SqA X.K t H a xs) : ∃ its : List Value, Vals xs its ∧ IsSq t s.heap a its.toArray ∧ a < s.heap.objs.size := by
  cases t with
  | true =>
    obtain ⟨its, r, p, _⟩ := I.list (show SqL X.K H a xs from h)
    exact ⟨its, r, p.isList, p.lt⟩
  | false =>
    obtain ⟨its, r, p, _⟩ := I.tuple (show SqT X.K H a xs from h)
    exact ⟨its, r, show s.heap.IsTuple a its.toArray from p, p.lt⟩
end
/-- a Turn whose iterator gives new tuples, out of what the library tells of it -/
theorem turn_new {P : Program} {w : World} {K : PySem.W.Frag} {tg : Expr} {n : Nat} {Sq : Hp → Prop} {f : Nat → List V} {it : Addr} {fp wr : List Addr} {tn : Nat → Heap → Prop} (mem : it ∈ fp) (sub : ∀ b ∈ wr, b ∈ fp)
    (obj : ∀ i h, tn i h → ∀ b ∈ fp, ∃ o, h.get? b = some o ∧ ∀ v, o.data ≠ .cell v) (keep : ∀ i h h', tn i h → (∀ b ∈ fp, ∀ o, h.get? b = some o → h'.get? b = some o) → tn i h')
    (self : ∀ (A : Around) (i : Nat) (s : Shared) (Q : Value → Shared → Prop) (E : Value → Shared → Prop), tn i s.heap → Q (.ref it) s → wpAny (model P w) A (pyIter (.ref it)) Q E s)
    (goes : ∀ (X : Cx), X.prog = P → X.w = w → X.K = K → X.calm = true → ∀ (i : Nat) (pins : List (Addr × Obj)) (s : Shared) (σ : L2.St) (H : Hp), Inv X pins σ H s → tn i s.heap → Sq H → i ≤ n →
      ∃ (fp' : List Addr) (Y : Nat → Heap → Value → Heap → Prop) (St : Nat → Heap → Prop), GoesN P w X.A tg it fp' wr n Y St ∧ St i s.heap ∧ (∀ h', St (i + 1) h' → tn (i + 1) h') ∧
        ∀ v h', i < n → Y i s.heap v h' → ∃ (T : Addr) (us : List Value), v = .ref T ∧ s.heap.objs.size ≤ T ∧ Vals (f i) us ∧ us.length ≤ sizeLine ∧ h'.IsTuple T us.toArray) :
    Turn P w K tg (Itu n Sq f) fp it tn where
  mem := mem
  obj := obj
  keep := keep
  item := by
    intro X hP hw hK hc i pins s σ H E I hf st hg
    obtain ⟨hi, hq⟩ := hg
    obtain ⟨fp', Y, St, W, st0, back, tell⟩ := goes X hP hw hK hc i pins s σ H I st hq (Nat.le_of_lt hi)
    subst hP hw hK
    refine W.goes i s _ E hi st0 fun v h' tk hY st1 hk htk => ?_
    obtain ⟨T, us, rfl, hT, rv, hz, ht⟩ := tell v h' hi hY
    obtain ⟨o, ho, hc', m, hd⟩ := id ht
    have hn : H T = none := I.hok.fresh hT
    refine ⟨.ref T, upd H T (.tup (f i)), I.turnedNew (t' := tk) (ch := fp) (fun b o hb e => hk b o (fun z => hb (sub b z)) e) hf hT ⟨by rw [rv.length]; exact hz, us, rv, ht⟩, rfl, ⟨T, rfl, hn, rfl⟩, back _ st1, fun b hb => ?_⟩
    obtain ⟨ob, eb, _⟩ := obj _ _ st b hb
    rw [upd_ne (Nat.ne_of_lt (Nat.lt_of_lt_of_le (Heap.lt_size eb) hT))]
    exact (hf b hb).1
  done := by
    intro X hP hw hK hc i pins s σ H E I hf st hg
    obtain ⟨hi, hq⟩ := hg
    obtain ⟨fp', Y, St, W, st0, _, _⟩ := goes X hP hw hK hc i pins s σ H I st hq (Nat.le_of_eq hi)
    subst hP hw hK
    subst hi
    exact W.stops s _ E st0 fun h' tk hk htk => I.turnedL (t' := tk) (ch := fp) (fun b o hb e => hk b o (fun z => hb (sub b z)) e) hf
  self := self

/-! ### zip of two -/
theorem vals_of2 {x y : V} {u v : Value} (a : RelV x u) (b : RelV y v) : Vals [x, y] [u, v] := .cons a (.cons b .nil)
theorem vals_of3 {x y z : V} {u v w : Value} (a : RelV x u) (b : RelV y v) (c : RelV z w) : Vals [x, y, z] [u, v, w] := .cons a (.cons b (.cons c .nil))
theorem getD_some {xs : List V} {i : Nat} (h : i < xs.length) : xs[i]? = some (xs.getD i .non) := by
  rw [List.getD_eq_getElem?_getD, List.getElem?_eq_getElem h]; rfl
theorem vals_at {xs : List V} {its : List Value} {i : Nat} {u : Value} (r : Vals xs its) (h : its.toArray[i]? = some u) : RelV (xs.getD i .non) u := by
  have hi : i < xs.length := by
    rw [r.length]
    have z := (Array.getElem?_eq_some_iff.mp h).1
    simpa using z
  obtain ⟨u', h1, h2⟩ := r.get (getD_some hi)
  have h' : its[i]? = some u := by simpa using h
  rw [h1] at h'
  cases h'
  exact h2
theorem turn_z2 {P : Program} {w : World} {K : PySem.W.Frag} {elts : List Expr} {kk : Nat} {tpos : Pos} {t1 t2 : Bool} {a b : Addr} {xs ys : List V} {N : Nat} (ha : a < N) (hb : b < N) :
    Turn P w K (.Tuple elts kk tpos) (Itu (min xs.length ys.length) (fun H => SqA K t1 H a xs ∧ SqA K t2 H b ys) fun i => [xs.getD i .non, ys.getD i .non]) [N + 4, N + 2, N + 3, N, N + 1] (N + 4)
      (fun i h => IsZip h (N + 4) (N + 2) (N + 3) .none ∧ IsTupOf2 h (N + 2) (.ref N) (.ref (N + 1)) ∧ (∃ a1 a2, IsTupOf2 h (N + 3) a1 a2) ∧ ItAt t1 h N a i ∧ ItAt t2 h (N + 1) b i) := by
  refine turn_new (wr := [N + 4, N + 3, N, N + 1]) (by simp) (by simp) (fun i h st c hc => ?_) (fun i h h' st k => ?_) (fun A i s Q E st h => wpAny_pyIter_zip st.1 h) ?_
  · obtain ⟨h1, h2, ⟨a1, a2, h3⟩, h4, h5⟩ := st
    have e' : c = N + 4 ∨ c = N + 2 ∨ c = N + 3 ∨ c = N ∨ c = N + 1 := by simpa using hc
    rcases e' with q | q | q | q | q
    · rw [q]; exact ⟨_, h1, fun v q => nomatch q⟩
    · rw [q]; exact ⟨_, h2, fun v q => nomatch q⟩
    · rw [q]; exact ⟨_, h3, fun v q => nomatch q⟩
    · rw [q]; obtain ⟨o, vs, e, d⟩ := h4.rec; exact ⟨o, e, fun v q => by rw [d] at q; cases q⟩
    · rw [q]; obtain ⟨o, vs, e, d⟩ := h5.rec; exact ⟨o, e, fun v q => by rw [d] at q; cases q⟩
  · obtain ⟨h1, h2, ⟨a1, a2, h3⟩, h4, h5⟩ := st
    exact ⟨k (N + 4) (by simp) _ h1, k (N + 2) (by simp) _ h2, ⟨a1, a2, k (N + 3) (by simp) _ h3⟩, h4.keep (k N (by simp)), h5.keep (k (N + 1) (by simp))⟩
  · intro X hP hw hK hc i pins s σ H I st hq hi
    subst hP hw hK
    obtain ⟨qa, qb⟩ := hq
    obtain ⟨its, rv, p1, _⟩ := seqA I qa
    obtain ⟨its2, rv2, p2, _⟩ := seqA I qb
    have hh : X.A.in1.handled = none := I.ok.hd hc
    have l1 : its.toArray.size = xs.length := by rw [List.size_toArray]; exact rv.length.symm
    have l2 : its2.toArray.size = ys.length := by rw [List.size_toArray]; exact rv2.length.symm
    have W := GoesN.zip2 (elts := elts) (x1 := kk) (pos := tpos) (zip_sep2 (N := N) (fp1 := [a]) (fp2 := [b]) (by simpa using ha) (by simpa using hb)) (drA (prog := X.prog) (w := X.w) t1 hh N a (Nat.ne_of_lt ha) its.toArray) (drA t2 hh (N + 1) b (Nat.ne_of_lt (Nat.lt_succ_of_lt hb)) its2.toArray)
    rw [l1, l2] at W
    obtain ⟨h1, h2, h3, h4, h5⟩ := st
    refine ⟨_, _, _, W, ⟨h1, h2, h3, ⟨h4, p1⟩, ⟨h5, p2⟩⟩, fun h' ⟨a1, a2, a3, a4, a5⟩ => ⟨a1, a2, a3, a4.1, a5.1⟩, fun v h' hlt hY => ?_⟩
    obtain ⟨T, x, y, rfl, hT, hx, hy, ht⟩ := hY
    exact ⟨T, [x, y], rfl, hT, vals_of2 (vals_at rv hx) (vals_at rv2 hy), by show 2 ≤ sizeLine; decide, ht⟩
/-- zip(x, y): lists or tuples -/
def iZ2 (K : PySem.W.Frag) (ta : TA) : TI := fun σ H R => ta σ H fun vs H1 => ∃ a b t1 t2 xs ys, vs = [.ref a, .ref b] ∧ SqA K t1 H1 a xs ∧ SqA K t2 H1 b ys ∧ R (Itu (min xs.length ys.length) (fun H => SqA K t1 H a xs ∧ SqA K t2 H b ys) fun i => [xs.getD i .non, ys.getD i .non]) H1
theorem pi_z2 {X : Cx} {e e2 : Expr} {ta : TA} {p pos tpos : Pos} {elts : List Expr} {kk : Nat} (hg : Gl X "zip") (hm : X.mg "zip" = none) (ha : PA X [e, e2] ta)
    (hs : starEach [e, e2] X.env = (false, eval e X.env) :: starEach [e2] X.env := by rfl) (hpl : (backTo pos (starEach [e2] X.env)).any (·.1) = false := by rfl) :
    PI X (.Tuple elts kk tpos) (.Call (.Name "zip" p) [e, e2] [] pos) (iZ2 X.K ta) := by
  refine ⟨fun pins s σ H R I h => ?_⟩
  refine Call_ (ld_blt I hg hm bi_zip (PyProof.Rows.callWith_type1 (thn (ha.run pos pins s σ H _ I h) fun us s1 ⟨vs, H1, I1, r1, q1⟩ => ?_) hs hpl))
  obtain ⟨a, b, t1, t2, xs, ys, ex, qa, qb, q⟩ := q1
  subst ex
  obtain ⟨u, v, rfl, ru, rv⟩ := vals2 r1
  cases ru
  cases rv
  obtain ⟨its, rx, p1, la⟩ := seqA I1 qa
  obtain ⟨its2, ry, p2, lb⟩ := seqA I1 qb
  refine zip_begins2 (begA t1 a its.toArray) (begA t2 b its2.toArray) p1 p2 fun h' hz hTI hTO h1 h2 hsz hk => wpAny_pyIter_zip hz ?_
  have I2 : Inv X pins σ H1 { s1 with heap := h' } := I1.kept (t' := s1.toks) hk
  refine ⟨s1.heap.objs.size + 4, [s1.heap.objs.size + 4, s1.heap.objs.size + 2, s1.heap.objs.size + 3, s1.heap.objs.size, s1.heap.objs.size + 1], _, _, H1, rfl, I2, turn_z2 la lb, ⟨hz, hTI, ⟨_, _, hTO⟩, itA0 h1, itA0 h2⟩, fun c hc => ?_, q⟩
  have e' : c = s1.heap.objs.size + 4 ∨ c = s1.heap.objs.size + 2 ∨ c = s1.heap.objs.size + 3 ∨ c = s1.heap.objs.size ∨ c = s1.heap.objs.size + 1 := by simpa using hc
  have hle : s1.heap.objs.size ≤ c := by
    have k : ∀ j : Nat, s1.heap.objs.size ≤ s1.heap.objs.size + j := fun j => Nat.le_add_right _ j
    rcases e' with z | z | z | z | z
    · rw [z]; exact k 4
    · rw [z]; exact k 2
    · rw [z]; exact k 3
    · rw [z]; exact k 0
    · rw [z]; exact k 1
  exact I1.fpOk hle (I1.hok.fresh hle)
/-! ### zip of three -/
theorem turn_z3 {P : Program} {w : World} {K : PySem.W.Frag} {elts : List Expr} {kk : Nat} {tpos : Pos} {t1 t2 t3 : Bool} {a b c : Addr} {xs ys zs : List V} {N : Nat} (ha : a < N) (hb : b < N) (hc3 : c < N) :
    Turn P w K (.Tuple elts kk tpos) (Itu (min (min xs.length ys.length) zs.length) (fun H => SqA K t1 H a xs ∧ SqA K t2 H b ys ∧ SqA K t3 H c zs) fun i => [xs.getD i .non, ys.getD i .non, zs.getD i .non]) [N + 5, N + 3, N + 4, N, N + 1, N + 2] (N + 5)
      (fun i h => IsZip h (N + 5) (N + 3) (N + 4) .none ∧ IsTupOf3 h (N + 3) (.ref N) (.ref (N + 1)) (.ref (N + 2)) ∧ (∃ a1 a2 a3, IsTupOf3 h (N + 4) a1 a2 a3) ∧ ItAt t1 h N a i ∧ ItAt t2 h (N + 1) b i ∧ ItAt t3 h (N + 2) c i) := by
  refine turn_new (wr := [N + 5, N + 4, N, N + 1, N + 2]) (by simp) (by simp) (fun i h st c hc => ?_) (fun i h h' st k => ?_) (fun A i s Q E st h => wpAny_pyIter_zip st.1 h) ?_
  · obtain ⟨h1, h2, ⟨a1, a2, a3, h3⟩, h4, h5, h6⟩ := st
    have e' : c = N + 5 ∨ c = N + 3 ∨ c = N + 4 ∨ c = N ∨ c = N + 1 ∨ c = N + 2 := by simpa using hc
    rcases e' with q | q | q | q | q | q
    · rw [q]; exact ⟨_, h1, fun v q => nomatch q⟩
    · rw [q]; exact ⟨_, h2, fun v q => nomatch q⟩
    · rw [q]; exact ⟨_, h3, fun v q => nomatch q⟩
    · rw [q]; obtain ⟨o, vs, e, d⟩ := h4.rec; exact ⟨o, e, fun v q => by rw [d] at q; cases q⟩
    · rw [q]; obtain ⟨o, vs, e, d⟩ := h5.rec; exact ⟨o, e, fun v q => by rw [d] at q; cases q⟩
    · rw [q]; obtain ⟨o, vs, e, d⟩ := h6.rec; exact ⟨o, e, fun v q => by rw [d] at q; cases q⟩
  · obtain ⟨h1, h2, ⟨a1, a2, a3, h3⟩, h4, h5, h6⟩ := st
    exact ⟨k (N + 5) (by simp) _ h1, k (N + 3) (by simp) _ h2, ⟨a1, a2, a3, k (N + 4) (by simp) _ h3⟩, h4.keep (k N (by simp)), h5.keep (k (N + 1) (by simp)), h6.keep (k (N + 2) (by simp))⟩
  · intro X hP hw hK hc i pins s σ H I st hq hi
    subst hP hw hK
    obtain ⟨qa, qb, qc⟩ := hq
    obtain ⟨its, rv, p1, _⟩ := seqA I qa
    obtain ⟨its2, rv2, p2, _⟩ := seqA I qb
    obtain ⟨its3, rv3, p3, _⟩ := seqA I qc
    have hh : X.A.in1.handled = none := I.ok.hd hc
    have l1 : its.toArray.size = xs.length := by rw [List.size_toArray]; exact rv.length.symm
    have l2 : its2.toArray.size = ys.length := by rw [List.size_toArray]; exact rv2.length.symm
    have l3 : its3.toArray.size = zs.length := by rw [List.size_toArray]; exact rv3.length.symm
    have W := GoesN.zip3 (elts := elts) (x1 := kk) (pos := tpos) (zip_sep3 (N := N) (fp1 := [a]) (fp2 := [b]) (fp3 := [c]) (by simpa using ha) (by simpa using hb) (by simpa using hc3)) (drA (prog := X.prog) (w := X.w) t1 hh N a (Nat.ne_of_lt ha) its.toArray) (drA t2 hh (N + 1) b (Nat.ne_of_lt (Nat.lt_succ_of_lt hb)) its2.toArray) (drA t3 hh (N + 2) c (Nat.ne_of_lt (Nat.lt_succ_of_lt (Nat.lt_succ_of_lt hc3))) its3.toArray)
    rw [l1, l2, l3] at W
    obtain ⟨h1, h2, h3, h4, h5, h6⟩ := st
    refine ⟨_, _, _, W, ⟨h1, h2, h3, ⟨h4, p1⟩, ⟨h5, p2⟩, ⟨h6, p3⟩⟩, fun h' ⟨a1, a2, a3, a4, a5, a6⟩ => ⟨a1, a2, a3, a4.1, a5.1, a6.1⟩, fun v h' hlt hY => ?_⟩
    obtain ⟨T, x, y, z, rfl, hT, hx, hy, hz, ht⟩ := hY
    exact ⟨T, [x, y, z], rfl, hT, vals_of3 (vals_at rv hx) (vals_at rv2 hy) (vals_at rv3 hz), by show 3 ≤ sizeLine; decide, ht⟩
def iZ3 (K : PySem.W.Frag) (ta : TA) : TI := fun σ H R => ta σ H fun vs H1 => ∃ a b c t1 t2 t3 xs ys zs, vs = [.ref a, .ref b, .ref c] ∧ SqA K t1 H1 a xs ∧ SqA K t2 H1 b ys ∧ SqA K t3 H1 c zs ∧
  R (Itu (min (min xs.length ys.length) zs.length) (fun H => SqA K t1 H a xs ∧ SqA K t2 H b ys ∧ SqA K t3 H c zs) fun i => [xs.getD i .non, ys.getD i .non, zs.getD i .non]) H1
theorem vals3 {x y z : V} {us : List Value} (r : Vals [x, y, z] us) : ∃ u v w, us = [u, v, w] ∧ RelV x u ∧ RelV y v ∧ RelV z w := by
  cases r with
  | cons a r =>
    cases r with
    | cons b r =>
      cases r with
      | cons c r =>
        cases r
        exact ⟨_, _, _, rfl, a, b, c⟩
theorem pi_z3 {X : Cx} {e e2 e3 : Expr} {ta : TA} {p pos tpos : Pos} {elts : List Expr} {kk : Nat} (hg : Gl X "zip") (hm : X.mg "zip" = none) (ha : PA X [e, e2, e3] ta)
    (hs : starEach [e, e2, e3] X.env = (false, eval e X.env) :: starEach [e2, e3] X.env := by rfl) (hpl : (backTo pos (starEach [e2, e3] X.env)).any (·.1) = false := by rfl) :
    PI X (.Tuple elts kk tpos) (.Call (.Name "zip" p) [e, e2, e3] [] pos) (iZ3 X.K ta) := by
  refine ⟨fun pins s σ H R I h => ?_⟩
  refine Call_ (ld_blt I hg hm bi_zip (PyProof.Rows.callWith_type1 (thn (ha.run pos pins s σ H _ I h) fun us s1 ⟨vs, H1, I1, r1, q1⟩ => ?_) hs hpl))
  obtain ⟨a, b, c, t1, t2, t3, xs, ys, zs, ex, qa, qb, qc, q⟩ := q1
  subst ex
  obtain ⟨u, v, w', rfl, ru, rv, rw'⟩ := vals3 r1
  cases ru
  cases rv
  cases rw'
  obtain ⟨its, rx, p1, la⟩ := seqA I1 qa
  obtain ⟨its2, ry, p2, lb⟩ := seqA I1 qb
  obtain ⟨its3, rz, p3, lc⟩ := seqA I1 qc
  refine zip_begins3 (begA t1 a its.toArray) (begA t2 b its2.toArray) (begA t3 c its3.toArray) p1 p2 p3 fun h' hz hTI hTO h1 h2 h3 hsz hk => wpAny_pyIter_zip hz ?_
  have I2 : Inv X pins σ H1 { s1 with heap := h' } := I1.kept (t' := s1.toks) hk
  refine ⟨s1.heap.objs.size + 5, [s1.heap.objs.size + 5, s1.heap.objs.size + 3, s1.heap.objs.size + 4, s1.heap.objs.size, s1.heap.objs.size + 1, s1.heap.objs.size + 2], _, _, H1, rfl, I2, turn_z3 la lb lc, ⟨hz, hTI, ⟨_, _, _, hTO⟩, itA0 h1, itA0 h2, itA0 h3⟩, fun c hc => ?_, q⟩
  have e' : c = s1.heap.objs.size + 5 ∨ c = s1.heap.objs.size + 3 ∨ c = s1.heap.objs.size + 4 ∨ c = s1.heap.objs.size ∨ c = s1.heap.objs.size + 1 ∨ c = s1.heap.objs.size + 2 := by simpa using hc
  have hle : s1.heap.objs.size ≤ c := by
    have k : ∀ j : Nat, s1.heap.objs.size ≤ s1.heap.objs.size + j := fun j => Nat.le_add_right _ j
    rcases e' with z | z | z | z | z | z
    · rw [z]; exact k 5
    · rw [z]; exact k 3
    · rw [z]; exact k 4
    · rw [z]; exact k 0
    · rw [z]; exact k 1
    · rw [z]; exact k 2
  exact I1.fpOk hle (I1.hok.fresh hle)

/-! ### enumerate -/
set_option maxHeartbeats 8000000 in
theorem meets_enum1 {v : Value} {o : Obj} {Hv : Heap → Prop} (B : Begins v o Hv) :
    Meets (Builtin.«enumerate.__new__» ⟨[.type "enumerate", v], []⟩) (fun _ R s => Hv s.heap ∧
      R (.ok (.ret (.ref (s.heap.push o).objs.size))) { s with heap := (s.heap.push o).push { cls := .type "enumerate", data := .fields #[.none, .bool false, .ref s.heap.objs.size, rawInt 0, .none, .none] } }) :=
  .of_wp fun prog w A R s h => by
    obtain ⟨h0, g, d, tk, os⟩ := s
    obtain ⟨hv, h⟩ := h
    have sb := sub_enumerate
    have it : ∀ {A' : Around} {E Q : Value → Shared → Prop}, Q (.ref h0.objs.size) ⟨h0.push o, g, d, tk, os⟩ → wpAny (model prog w) A' (pyIter v) Q E ⟨h0, g, d, tk, os⟩ :=
      fun k => B.iter prog w _ _ ⟨h0, g, d, tk, os⟩ _ hv k
    wp_walk using it
    refine wpAny_stack_any fun st => wpAny_pure ?_
    split
    · rename_i c _ _ _ _ _
      cases (c == Value.type "enumerate")
      · wp_walk using it
        exact ⟨_, rfl, h⟩
      · wp_walk using it
        exact ⟨_, rfl, h⟩
    · wp_walk using it
      exact ⟨_, rfl, h⟩
theorem enum1_begins {prog : Program} {w : World} {A : Around} {E : Value → Shared → Prop} {s : Shared} {v : Value} {o : Obj} {Hv : Heap → Prop} {Q : Value → Shared → Prop} (B : Begins v o Hv) (h1 : Hv s.heap)
    (h : ∀ h', IsEnum h' (s.heap.objs.size + 1) s.heap.objs.size 0 .none → h'.get? s.heap.objs.size = some o → (∀ b ob, s.heap.get? b = some ob → h'.get? b = some ob) → Q (.ref (s.heap.objs.size + 1)) { s with heap := h' }) :
    wpAny (model prog w) A (call (.type "enumerate") [v]) Q E s := by
  refine callType_new F.called_enumerate (by decide) (F.typeCall_enumerate_1 _) (F.newCall_enumerate_1 _) (fun obj => F.args_object_init_2 obj _) F.entry_enumerate_new (meets_enum1 B) ⟨h1, ?_⟩
  have z : (s.heap.push o).objs.size = s.heap.objs.size + 1 := Heap.size_push ..
  have e1 := Heap.get?_push_size (s.heap.push o) (o := { cls := .type "enumerate", data := .fields #[.none, .bool false, .ref s.heap.objs.size, rawInt 0, .none, .none] }) rfl
  rw [z] at e1
  show _ ∧ _
  rw [z]
  exact ⟨⟨_, e1, rfl⟩, h _ e1 (Heap.get?_push_of_some _ (Heap.get?_push_size _ B.free)) fun b ob x => Heap.get?_push_of_some _ (Heap.get?_push_of_some _ x)⟩
theorem turn_en {P : Program} {w : World} {K : PySem.W.Frag} {elts : List Expr} {kk : Nat} {tpos : Pos} {t1 : Bool} {a : Addr} {xs : List V} {N : Nat} (ha : a < N) :
    Turn P w K (.Tuple elts kk tpos) (Itu xs.length (fun H => SqA K t1 H a xs) fun i => [.int (i : Nat), xs.getD i .non]) [N + 1, N] (N + 1)
      (fun i h => (∃ old, IsEnum h (N + 1) N ((0 : Int) + (i : Nat)) old) ∧ ItAt t1 h N a i) := by
  refine turn_new (wr := [N + 1, N]) (by simp) (by simp) (fun i h st c hc => ?_) (fun i h h' st k => ?_) (fun A i s Q E st h => by obtain ⟨⟨old, e⟩, _⟩ := st; exact wpAny_pyIter_enum e h) ?_
  · obtain ⟨⟨old, h1⟩, h4⟩ := st
    have e' : c = N + 1 ∨ c = N := by simpa using hc
    rcases e' with q | q
    · rw [q]; exact ⟨_, h1, fun v q => nomatch q⟩
    · rw [q]; obtain ⟨o, vs, e, d⟩ := h4.rec; exact ⟨o, e, fun v q => by rw [d] at q; cases q⟩
  · obtain ⟨⟨old, h1⟩, h4⟩ := st
    exact ⟨⟨old, k (N + 1) (by simp) _ h1⟩, h4.keep (k N (by simp))⟩
  · intro X hP hw hK hc i pins s σ H I st hq hi
    subst hP hw hK
    obtain ⟨its, rv, p1, _⟩ := seqA I hq
    have hh : X.A.in1.handled = none := I.ok.hd hc
    have l1 : its.toArray.size = xs.length := by rw [List.size_toArray]; exact rv.length.symm
    have W := GoesN.enumFrom (elts := elts) (x1 := kk) (pos := tpos) 0 (drA (prog := X.prog) (w := X.w) t1 hh N a (Nat.ne_of_lt ha) its.toArray) (N + 1) (Nat.succ_ne_self N) (by
      intro z
      rcases List.mem_cons.mp z with z | z
      · exact Nat.succ_ne_self N z
      · exact absurd (List.mem_singleton.mp z) (Nat.ne_of_gt (Nat.lt_succ_of_lt ha))) (by simp)
    rw [l1] at W
    obtain ⟨h1, h4⟩ := st
    refine ⟨_, _, _, W, ⟨h1, h4, p1⟩, fun h' ⟨a1, a2⟩ => ⟨a1, a2.1⟩, fun v h' hlt hY => ?_⟩
    obtain ⟨T, t, x, rfl, hT, hx, ht⟩ := hY
    refine ⟨T, [.int ((0 : Int) + (i : Nat)) t, x], rfl, hT, vals_of2 ⟨t, ?_⟩ (vals_at rv hx), by show 2 ≤ sizeLine; decide, ht⟩
    rw [Int.zero_add]
/-- enumerate(x): a list or a tuple -/
def iEn (K : PySem.W.Frag) (ta : TA) : TI := fun σ H R => ta σ H fun vs H1 => ∃ a t1 xs, vs = [.ref a] ∧ SqA K t1 H1 a xs ∧ R (Itu xs.length (fun H => SqA K t1 H a xs) fun i => [.int (i : Nat), xs.getD i .non]) H1
theorem pi_en {X : Cx} {e : Expr} {ta : TA} {p pos tpos : Pos} {elts : List Expr} {kk : Nat} (hg : Gl X "enumerate") (hm : X.mg "enumerate" = none) (ha : PA X [e] ta) (hs : starEach [e] X.env = [(false, eval e X.env)] := by rfl) :
    PI X (.Tuple elts kk tpos) (.Call (.Name "enumerate" p) [e] [] pos) (iEn X.K ta) := by
  refine ⟨fun pins s σ H R I h => ?_⟩
  refine Call_ (ld_blt I hg hm bi_enumerate (PyProof.Rows.callWith_type1 (thn (ha.run pos pins s σ H _ I h) fun us s1 ⟨vs, H1, I1, r1, q1⟩ => ?_) hs rfl))
  obtain ⟨a, t1, xs, ex, qa, q⟩ := q1
  subst ex
  obtain ⟨u, rfl, ru⟩ := vals1 r1
  cases ru
  obtain ⟨its, rx, p1, la⟩ := seqA I1 qa
  refine enum1_begins (begA t1 a its.toArray) p1 fun h' he h1 hk => wpAny_pyIter_enum he ?_
  have I2 : Inv X pins σ H1 { s1 with heap := h' } := I1.kept (t' := s1.toks) hk
  refine ⟨s1.heap.objs.size + 1, [s1.heap.objs.size + 1, s1.heap.objs.size], _, _, H1, rfl, I2, turn_en la, ⟨⟨_, he⟩, itA0 h1⟩, fun c hc => ?_, q⟩
  have e' : c = s1.heap.objs.size + 1 ∨ c = s1.heap.objs.size := by simpa using hc
  have hle : s1.heap.objs.size ≤ c := by
    rcases e' with z | z
    · rw [z]; exact Nat.le_add_right _ _
    · rw [z]; exact Nat.le_refl _
  exact I1.fpOk hle (I1.hok.fresh hle)

/-! ### loops and comprehensions over such -/
theorem for_itu {n : Nat} {Sq : Hp → Prop} {f : Nat → List V} {g : TG} {tb : TS} {D : Ends} {σ : L2.St} {H : Hp} (Pv : Nat → L2.St → Hp → Prop) (h0 : Pv 0 σ H) (hq : ∀ i σ H, i ≤ n → Pv i σ H → Sq H)
    (hs : ∀ (i : Nat) (T : Addr) (σ : L2.St) (H : Hp), i < n → Pv i σ H → H T = none → g (.ref T) σ (upd H T (.tup (f i))) fun σ2 H2 => tb { D with nx := Pv (i + 1), ct := Pv (i + 1), bk := D.nx } σ2 H2) (hd : ∀ σ H, Pv n σ H → D.nx σ H) :
    ∃ W : Nat → Nat → L2.St → Hp → Prop, (∃ m, W 0 m σ H) ∧ ∀ i m σ H, W i m σ H →
      ((Itu n Sq f).stop i H ∧ D.nx σ H) ∨ ((Itu n Sq f).go i H ∧ ∃ N : L2.St → Hp → Prop, (∀ σ' H', N σ' H' → ∃ m', m' < m ∧ W (i + 1) m' σ' H') ∧ ∀ v H', (Itu n Sq f).yld i H v H' → g v σ H' fun σ2 H2 => tb { D with nx := N, ct := N, bk := D.nx } σ2 H2) := by
  refine ⟨fun i m σ H => m = n - i ∧ i ≤ n ∧ Pv i σ H, ⟨n, rfl, Nat.zero_le _, h0⟩, ?_⟩
  rintro i m σ H ⟨rfl, hi, p⟩
  have q := hq i σ H hi p
  by_cases hlt : i < n
  · refine .inr ⟨⟨hlt, q⟩, Pv (i + 1), fun σ' H' p' => ⟨n - (i + 1), by omega, rfl, hlt, p'⟩, fun v H' y => ?_⟩
    obtain ⟨T, rfl, hT, rfl⟩ := y
    exact hs i T σ H hlt p hT
  · have e : i = n := by omega
    subst e
    exact .inl ⟨⟨rfl, q⟩, hd σ H p⟩
/-- what a comprehension asks of such a walk -/
theorem lc_itu {n : Nat} {Sq : Hp → Prop} {f : Nat → List V} {g : TG} {tt : TT} {te : TE} {Q : VK} {σ0 : L2.St} {vs : List Nat} {Dl : Addr} {H : Hp} (Pv : Nat → Hp → Prop) (h0 : Pv 0 (upd H Dl (.lst []))) (hq : ∀ i H, i ≤ n → Pv i H → Sq H)
    (hs : ∀ (i : Nat) (T : Addr) (H : Hp), i < n → Pv i H → H T = none → g (.ref T) σ0 (upd H T (.tup (f i))) fun σ2 H2 => wipe σ2 vs = σ0 ∧ tt σ2 H2 fun b H3 => if b = true then te σ2 H3 fun y H4 => ∃ acc, H4 Dl = some (.lst acc) ∧ acc.length < sizeLine ∧ Pv (i + 1) (upd H4 Dl (.lst (acc ++ [y]))) else Pv (i + 1) H3)
    (hd : ∀ H, Pv n H → Q (.ref Dl) H) :
    ∃ W : Nat → Nat → Hp → Prop, (∃ m, W 0 m (upd H Dl (.lst []))) ∧ ∀ i m H, W i m H →
      ((Itu n Sq f).stop i H ∧ Q (.ref Dl) H) ∨ ((Itu n Sq f).go i H ∧ ∃ Nx : Hp → Prop, (∀ H', Nx H' → ∃ m', m' < m ∧ W (i + 1) m' H') ∧ ∀ x H', (Itu n Sq f).yld i H x H' → g x σ0 H' fun σ2 H2 => wipe σ2 vs = σ0 ∧ tt σ2 H2 fun b H3 =>
        if b = true then te σ2 H3 fun y H4 => ∃ acc, H4 Dl = some (.lst acc) ∧ acc.length < sizeLine ∧ Nx (upd H4 Dl (.lst (acc ++ [y]))) else Nx H3) := by
  refine ⟨fun i m H => m = n - i ∧ i ≤ n ∧ Pv i H, ⟨n, rfl, Nat.zero_le _, h0⟩, ?_⟩
  rintro i m H ⟨rfl, hi, p⟩
  have q := hq i H hi p
  by_cases hlt : i < n
  · refine .inr ⟨⟨hlt, q⟩, Pv (i + 1), fun H' p' => ⟨n - (i + 1), by omega, rfl, hlt, p'⟩, fun x H' y => ?_⟩
    obtain ⟨T, rfl, hT, rfl⟩ := y
    exact hs i T H hlt p hT
  · have e : i = n := by omega
    subst e
    exact .inl ⟨⟨rfl, q⟩, hd H p⟩
end G


set_option Elab.async false
set_option linter.all false
set_option maxRecDepth 100000
set_option maxHeartbeats 4000000
/-! Loops, 4: one form of walk for lists, tuples, ranges, zip, enumerate; a for by an invariant, a comprehension that changes nothing. -/
namespace G
open PySem PySem.Spec PyProof.Rows L2

/-- n turns over things that stand (Sq); yl: what a turn gives -/
def ItG (n : Nat) (Sq : Hp → Prop) (yl : Nat → Hp → V → Hp → Prop) : It := ⟨fun i H => i < n ∧ Sq H, yl, fun i H => i = n ∧ Sq H⟩
/-- a value that stands already -/
def yV (f : Nat → V) : Nat → Hp → V → Hp → Prop := fun i H v H' => v = f i ∧ H' = H
/-- a new tuple -/
def yT (f : Nat → List V) : Nat → Hp → V → Hp → Prop := fun i H v H' => ∃ T, v = .ref T ∧ H T = none ∧ H' = upd H T (.tup (f i))
theorem itu_g (n : Nat) (Sq : Hp → Prop) (f : Nat → List V) : Itu n Sq f = ItG n Sq (yT f) := rfl
theorem turn_imp {P : Program} {w : World} {K : PySem.W.Frag} {tg : Expr} {J J' : It} {fp : List Addr} {it : Addr} {tn : Nat → Heap → Prop} (T : Turn P w K tg J fp it tn) (hg : ∀ i H, J'.go i H → J.go i H) (hs : ∀ i H, J'.stop i H → J.stop i H)
    (hy : ∀ i H x H', J'.go i H → J.yld i H x H' → J'.yld i H x H') : Turn P w K tg J' fp it tn where
  mem := T.mem
  obj := T.obj
  keep := T.keep
  item := fun X hP hw hK hc i pins s σ H E I hf st h => by
    refine wpAny_mono (T.item X hP hw hK hc i pins s σ H E I hf st (hg i H h)) (fun r s1 hr => ?_) fun _ _ z => z
    obtain ⟨u, e, h1⟩ := hr
    exact ⟨u, e, wpAny_mono h1 (fun _ s2 ⟨x, H', I', rv, y, st', fr⟩ => ⟨x, H', I', rv, hy i H x H' h y, st', fr⟩) fun _ _ z => z⟩
  done := fun X hP hw hK hc i pins s σ H E I hf st h => T.done X hP hw hK hc i pins s σ H E I hf st (hs i H h)
  self := T.self
/-- over a list or a tuple that stands still -/
def iSq (K : PySem.W.Frag) (te : TE) : TI := fun σ H R => te σ H fun x H1 => ∃ a t xs, x = .ref a ∧ SqA K t H1 a xs ∧ R (ItG xs.length (fun H => SqA K t H a xs) (yV fun i => xs.getD i .non)) H1
theorem pi_sq {X : Cx} {tg e : Expr} {te : TE} (he : PE X e te) : PI X tg e (iSq X.K te) := by
  refine ⟨fun pins s σ H R I h => ?_⟩
  refine thn (he.run pins s σ H _ I h) fun v s1 ⟨x, H1, I1, r1, q1⟩ => ?_
  obtain ⟨a, t, xs, rfl, hq, q⟩ := q1
  cases r1
  cases t with
  | true =>
    have hq' : SqL X.K H1 a xs := hq
    obtain ⟨its, rv, p, hz⟩ := I1.list hq'
    refine wpAny_pyIter_list p.isList ?_
    refine ⟨s1.heap.objs.size, [s1.heap.objs.size], _, _, H1, rfl, I1.kept (t' := s1.toks) fun b o e => Heap.get?_push_of_some _ e, turn_imp (J' := ItG xs.length (fun H => SqA X.K true H a xs) (yV fun i => xs.getD i .non)) (turn_list a _) (fun i H ⟨hi, hl⟩ => ⟨xs, _, (show SqL X.K H a xs from hl), getD_some hi⟩) (fun i H ⟨hi, hl⟩ => ⟨xs, (show SqL X.K H a xs from hl), Nat.le_of_eq hi.symm⟩) (fun i H x H' ⟨hi, hl⟩ ⟨e1, e2⟩ => ?_), ⟨_, Heap.get?_push_size _ rfl, rfl, rfl⟩, fun b hb => ?_, q⟩
    · have e3 := e2 xs (show SqL X.K H a xs from hl)
      rw [getD_some hi] at e3
      exact ⟨(Option.some.inj e3).symm, e1⟩
    · have e : b = s1.heap.objs.size := by simpa using hb
      subst e
      exact I1.fpOk (Nat.le_refl _) (I1.hok.fresh (Nat.le_refl _))
  | false =>
    have hq' : SqT X.K H1 a xs := hq
    obtain ⟨its, rv, p, hz⟩ := I1.tuple hq'
    refine wpAny_pyIter_tuple (show s1.heap.IsTuple a its.toArray from p) ?_
    refine ⟨s1.heap.objs.size, [s1.heap.objs.size], _, _, H1, rfl, I1.kept (t' := s1.toks) fun b o e => Heap.get?_push_of_some _ e, turn_imp (J' := ItG xs.length (fun H => SqA X.K false H a xs) (yV fun i => xs.getD i .non)) (turn_tuple a _) (fun i H ⟨hi, hl⟩ => ⟨xs, _, (show SqT X.K H a xs from hl), getD_some hi⟩) (fun i H ⟨hi, hl⟩ => ⟨xs, (show SqT X.K H a xs from hl), Nat.le_of_eq hi.symm⟩) (fun i H x H' ⟨hi, hl⟩ ⟨e1, e2⟩ => ?_), ⟨_, Heap.get?_push_size _ rfl, rfl, rfl⟩, fun b hb => ?_, q⟩
    · have e3 := e2 xs (show SqT X.K H a xs from hl)
      rw [getD_some hi] at e3
      exact ⟨(Option.some.inj e3).symm, e1⟩
    · have e : b = s1.heap.objs.size := by simpa using hb
      subst e
      exact I1.fpOk (Nat.le_refl _) (I1.hok.fresh (Nat.le_refl _))
/-- over range(j), range(i, j), range(i, j, c) -/
def iRg1 (ta : TA) : TI := fun σ H R => ta σ H fun vs H1 => ∃ j : Int, vs = [.int j] ∧ (-(2 ^ 62) ≤ j ∧ j < 2 ^ 62) ∧ R (ItG j.toNat (fun _ => True) (yV fun i => .int (i : Nat))) H1
def iRg2 (ta : TA) : TI := fun σ H R => ta σ H fun vs H1 => ∃ i j : Int, vs = [.int i, .int j] ∧ (-(2 ^ 62) ≤ i ∧ i < 2 ^ 62 ∧ -(2 ^ 62) ≤ j ∧ j < 2 ^ 62) ∧ R (ItG (j - i).toNat (fun _ => True) (yV fun k => .int (i + (k : Nat)))) H1
theorem pie_imp {X : Cx} {pins : List (Addr × Obj)} {σ : L2.St} {tg : Expr} {R : It → Hp → Prop} {itv : Value} {s2 : Shared} {J J' : It} (hg : ∀ i H, J'.go i H → J.go i H) (hs : ∀ i H, J'.stop i H → J.stop i H) (hy : ∀ i H x H', J'.go i H → J.yld i H x H' → J'.yld i H x H')
    (h : PIE X pins σ tg (fun J2 H => J2 = J ∧ R J' H) itv s2) : PIE X pins σ tg R itv s2 := by
  obtain ⟨it, fp, tn, J2, H2, e, I2, T, st, fr, e2, r⟩ := h
  subst e2
  exact ⟨it, fp, tn, J', H2, e, I2, turn_imp T hg hs hy, st, fr, r⟩
section
variable {X : Cx} {tg : Expr}
theorem pi_rg1 {a : Expr} {ta : TA} {p pos : Pos} (hg : Gl X "range") (hm : X.mg "range" = none) (ha : PA X [a] ta) (hs : starEach [a] X.env = [(false, eval a X.env)] := by rfl) :
    PI X tg (.Call (.Name "range" p) [a] [] pos) (iRg1 ta) := by
  refine ⟨fun pins s σ H R I h => ?_⟩
  refine Call_ (ld_blt I hg hm bi_range (PyProof.Rows.callWith_type1 (thn (ha.run pos pins s σ H _ I h) fun us s1 ⟨vs, H1, I1, r1, q1⟩ => ?_) hs rfl))
  obtain ⟨j, e, ⟨q1, q2⟩, q⟩ := q1
  subst e
  obtain ⟨u, rfl, ru⟩ := vals1 r1
  obtain ⟨t, rfl⟩ := ru
  refine call_range_1 (thn (range_it (R := fun J2 H => J2 = Itr 0 j.toNat ∧ R (ItG j.toNat (fun _ => True) (yV fun i => .int (i : Nat))) H) I1 (by omega) (by omega) q1 q2 ⟨by simp, q⟩) fun itv s2 h2 => pie_imp (J := Itr 0 j.toNat) (J' := ItG j.toNat (fun _ => True) (yV fun i => .int (i : Nat))) (fun i H z => z.1) (fun i H z => Nat.le_of_eq z.1.symm) (fun i H x H' _ y => ⟨?_, y.1⟩) h2)
  rw [y.2, Int.zero_add]
theorem pi_rg2 {a b : Expr} {ta : TA} {p pos : Pos} (hg : Gl X "range") (hm : X.mg "range" = none) (ha : PA X [a, b] ta) (hs : starEach [a, b] X.env = [(false, eval a X.env), (false, eval b X.env)] := by rfl) (hs2 : starEach [b] X.env = [(false, eval b X.env)] := by rfl) :
    PI X tg (.Call (.Name "range" p) [a, b] [] pos) (iRg2 ta) := by
  refine ⟨fun pins s σ H R I h => ?_⟩
  refine Call_ (ld_blt I hg hm bi_range (PyProof.Rows.callWith_type1 (thn (ha.run pos pins s σ H _ I h) fun us s1 ⟨vs, H1, I1, r1, q1⟩ => ?_) (by rw [hs, hs2]) (by rw [hs2]; rfl)))
  obtain ⟨i, j, e, ⟨q1, q2, q3, q4⟩, q⟩ := q1
  subst e
  obtain ⟨u, v, rfl, ru, rv⟩ := vals2 r1
  obtain ⟨t, rfl⟩ := ru
  obtain ⟨t', rfl⟩ := rv
  exact call_range_2 (thn (range_it (R := fun J2 H => J2 = Itr i (j - i).toNat ∧ R (ItG (j - i).toNat (fun _ => True) (yV fun k => .int (i + (k : Nat)))) H) I1 q1 q2 q3 q4 ⟨rfl, q⟩) fun itv s2 h2 => pie_imp (J := Itr i (j - i).toNat) (J' := ItG (j - i).toNat (fun _ => True) (yV fun k => .int (i + (k : Nat)))) (fun i H z => z.1) (fun i H z => Nat.le_of_eq z.1.symm) (fun i H x H' _ y => ⟨y.2, y.1⟩) h2)
end

/-! ### a for, a comprehension -/
/-- what is kept of the numbers below i, in order -/
def kept (b : Nat → Bool) (i : Nat) : List Nat := (List.range i).filter b
theorem kept_succ (b : Nat → Bool) (i : Nat) : kept b (i + 1) = kept b i ++ (if b i = true then [i] else []) := by
  unfold kept
  rw [List.range_succ, List.filter_append]
  cases h : b i <;> simp [List.filter_cons, h]
theorem kept_len (b : Nat → Bool) (i : Nat) : (kept b i).length ≤ i := by
  unfold kept
  have h := List.length_filter_le b (List.range i)
  rw [List.length_range] at h
  exact h
theorem paired_snoc {α β : Type} {F : α → β → Prop} : ∀ {l : List α} {m : List β} {a : α} {b : β}, Paired F l m → F a b → Paired F (l ++ [a]) (m ++ [b])
  | _, _, _, _, .nil, h => .cons h .nil
  | _, _, _, _, .cons r t, h => .cons r (paired_snoc t h)
theorem same_new {H H' : Hp} {p : Addr} {o : HO} (e : Same H H') (h : H p = none) : Same H (upd H' p o) := fun a u ha => by
  rw [upd_ne (ne_of_none ha h)]
  exact e a u ha
/-- A COMPREHENSION THAT CHANGES NOTHING: b tells which turns are kept, F what the item made at a turn is (in the heap); B is the turn's reading -/
theorem lcF {n : Nat} {Sq : Hp → Prop} {yl : Nat → Hp → V → Hp → Prop} {B : (Hp → Prop) → V → Hp → Prop} {Q : Hp → Prop} {Dl : Addr} {H : Hp} (b : Nat → Bool) (F : Nat → V → Hp → Prop) (hD : H Dl = none) (hn : n ≤ 100000)
    (hF : ∀ i v H1 acc acc', H1 Dl = some (.lst acc) → F i v H1 → F i v (upd H1 Dl (.lst acc'))) (hF' : ∀ i v H1 H2, F i v H1 → Same H1 H2 → F i v H2) (hq : ∀ H', Same H H' → Sq H')
    (hs : ∀ (i : Nat) (v : V) (H1 H2 : Hp) (acc : List V) (Nx : Hp → Prop), i < n → Same H H1 → H1 Dl = some (.lst acc) → yl i H1 v H2 → (b i = true → ∀ y H5, Same H1 H5 → F i y H5 → ∃ acc, H5 Dl = some (.lst acc) ∧ acc.length < sizeLine ∧ Nx (upd H5 Dl (.lst (acc ++ [y])))) →
      (b i = false → ∀ H5, Same H1 H5 → Nx H5) → B Nx v H2)
    (hd : ∀ H' acc, Same H H' → H' Dl = some (.lst acc) → Paired (fun i v => F i v H') (kept b n) acc → Q H') :
    ∃ W : Nat → Nat → Hp → Prop, (∃ m, W 0 m (upd H Dl (.lst []))) ∧ ∀ i m H, W i m H →
      ((ItG n Sq yl).stop i H ∧ Q H) ∨ ((ItG n Sq yl).go i H ∧ ∃ Nx : Hp → Prop, (∀ H', Nx H' → ∃ m', m' < m ∧ W (i + 1) m' H') ∧ ∀ x H', (ItG n Sq yl).yld i H x H' → B Nx x H') := by
  have hz : (100000 : Nat) < sizeLine := by rw [sizeLine_eq]; decide
  refine ⟨fun i m H1 => m = n - i ∧ i ≤ n ∧ Same H H1 ∧ ∃ acc, H1 Dl = some (.lst acc) ∧ Paired (fun j v => F j v H1) (kept b i) acc, ⟨n, rfl, Nat.zero_le _, same_new (Same.refl H) hD, [], upd_same, .nil⟩, ?_⟩
  rintro i m H1 ⟨rfl, hi, e1, acc, ha, hp⟩
  by_cases hlt : i < n
  · refine .inr ⟨⟨hlt, hq H1 e1⟩, fun H2 => Same H H2 ∧ ∃ acc, H2 Dl = some (.lst acc) ∧ Paired (fun j v => F j v H2) (kept b (i + 1)) acc, fun H2 h2 => ⟨n - (i + 1), by omega, rfl, hlt, h2⟩, fun v H2 y => ?_⟩
    refine hs i v H1 H2 acc _ hlt e1 ha y (fun hb z H5 e5 hf => ?_) fun hb H5 e5 => ?_
    · refine ⟨acc, e5 _ _ ha, ?_, same_new (e1.trans e5) hD, acc ++ [z], upd_same, ?_⟩
      · have h1 := hp.length
        have h2 := kept_len b i
        omega
      · rw [kept_succ, if_pos hb]
        exact paired_snoc (Paired.imp2 hp fun j v h => hF j v _ acc _ (e5 _ _ ha) (hF' j v _ _ h e5)) (hF i z _ acc _ (e5 _ _ ha) hf)
    · refine ⟨e1.trans e5, acc, e5 _ _ ha, ?_⟩
      rw [kept_succ, hb, if_neg Bool.false_ne_true, List.append_nil]
      exact Paired.imp2 hp fun j v h => hF' j v _ _ h e5
  · have e : i = n := by omega
    subst e
    exact .inl ⟨⟨rfl, hq H1 e1⟩, hd H1 acc e1 ha hp⟩
theorem paired_map {f : Nat → V} : ∀ {l : List Nat} {acc : List V}, Paired (fun i v => v = f i) l acc → acc = l.map f
  | _, _, .nil => rfl
  | _, _, .cons r t => by rw [r, paired_map t]; rfl
/-- .. where the items are plain values -/
theorem lcV {n : Nat} {Sq : Hp → Prop} {yl : Nat → Hp → V → Hp → Prop} {B : (Hp → Prop) → V → Hp → Prop} {Q : Hp → Prop} {Dl : Addr} {H : Hp} (b : Nat → Bool) (f : Nat → V) (hD : H Dl = none) (hn : n ≤ 100000) (hq : ∀ H', Same H H' → Sq H')
    (hs : ∀ (i : Nat) (v : V) (H1 H2 : Hp) (acc : List V) (Nx : Hp → Prop), i < n → Same H H1 → H1 Dl = some (.lst acc) → yl i H1 v H2 → (b i = true → ∀ H5, Same H1 H5 → ∃ acc, H5 Dl = some (.lst acc) ∧ acc.length < sizeLine ∧ Nx (upd H5 Dl (.lst (acc ++ [f i])))) →
      (b i = false → ∀ H5, Same H1 H5 → Nx H5) → B Nx v H2)
    (hd : ∀ H', Same H H' → H' Dl = some (.lst ((kept b n).map f)) → Q H') :
    ∃ W : Nat → Nat → Hp → Prop, (∃ m, W 0 m (upd H Dl (.lst []))) ∧ ∀ i m H, W i m H →
      ((ItG n Sq yl).stop i H ∧ Q H) ∨ ((ItG n Sq yl).go i H ∧ ∃ Nx : Hp → Prop, (∀ H', Nx H' → ∃ m', m' < m ∧ W (i + 1) m' H') ∧ ∀ x H', (ItG n Sq yl).yld i H x H' → B Nx x H') :=
  lcF b (fun i v _ => v = f i) hD hn (fun _ _ _ _ _ _ h => h) (fun _ _ _ _ h _ => h) hq (fun i v H1 H2 acc Nx hi e1 ha y k1 k2 => hs i v H1 H2 acc Nx hi e1 ha y (fun hb H5 e5 => k1 hb _ _ e5 rfl) k2) fun H' acc e ha hp => by
    rw [paired_map hp] at ha
    exact hd H' e ha
/-- .. of every turn -/
theorem lcA {n : Nat} {Sq : Hp → Prop} {yl : Nat → Hp → V → Hp → Prop} {B : (Hp → Prop) → V → Hp → Prop} {Q : Hp → Prop} {Dl : Addr} {H : Hp} (f : Nat → V) (hD : H Dl = none) (hn : n ≤ 100000) (hq : ∀ H', Same H H' → Sq H')
    (hs : ∀ (i : Nat) (v : V) (H1 H2 : Hp) (acc : List V) (Nx : Hp → Prop), i < n → Same H H1 → H1 Dl = some (.lst acc) → yl i H1 v H2 → (∀ H5, Same H1 H5 → ∃ acc, H5 Dl = some (.lst acc) ∧ acc.length < sizeLine ∧ Nx (upd H5 Dl (.lst (acc ++ [f i])))) → B Nx v H2)
    (hd : ∀ H', Same H H' → H' Dl = some (.lst ((List.range n).map f)) → Q H') :
    ∃ W : Nat → Nat → Hp → Prop, (∃ m, W 0 m (upd H Dl (.lst []))) ∧ ∀ i m H, W i m H →
      ((ItG n Sq yl).stop i H ∧ Q H) ∨ ((ItG n Sq yl).go i H ∧ ∃ Nx : Hp → Prop, (∀ H', Nx H' → ∃ m', m' < m ∧ W (i + 1) m' H') ∧ ∀ x H', (ItG n Sq yl).yld i H x H' → B Nx x H') :=
  lcV (fun _ => true) f hD hn hq (fun i v H1 H2 acc Nx hi e1 ha y k1 _ => hs i v H1 H2 acc Nx hi e1 ha y (k1 rfl)) fun H' e h => hd H' e (by rw [h]; congr 3; unfold kept; exact (List.filter_eq_self.mpr fun _ _ => rfl))
/-- A FOR: Pv what stands before turn i -/
theorem forB {n : Nat} {Sq : Hp → Prop} {yl : Nat → Hp → V → Hp → Prop} {B : (L2.St → Hp → Prop) → L2.St → V → Hp → Prop} {Dn : L2.St → Hp → Prop} {σ : L2.St} {H : Hp} (Pv : Nat → L2.St → Hp → Prop) (h0 : Pv 0 σ H) (hq : ∀ i σ H, i ≤ n → Pv i σ H → Sq H)
    (hs : ∀ (i : Nat) (v : V) (σ : L2.St) (H H' : Hp) (Nx : L2.St → Hp → Prop), i < n → Pv i σ H → yl i H v H' → (∀ σ2 H2, Pv (i + 1) σ2 H2 → Nx σ2 H2) → B Nx σ v H') (hd : ∀ σ H, Pv n σ H → Dn σ H) :
    ∃ W : Nat → Nat → L2.St → Hp → Prop, (∃ m, W 0 m σ H) ∧ ∀ i m σ H, W i m σ H →
      ((ItG n Sq yl).stop i H ∧ Dn σ H) ∨ ((ItG n Sq yl).go i H ∧ ∃ N : L2.St → Hp → Prop, (∀ σ' H', N σ' H' → ∃ m', m' < m ∧ W (i + 1) m' σ' H') ∧ ∀ v H', (ItG n Sq yl).yld i H v H' → B N σ v H') := by
  refine ⟨fun i m σ H => m = n - i ∧ i ≤ n ∧ Pv i σ H, ⟨n, rfl, Nat.zero_le _, h0⟩, ?_⟩
  rintro i m σ H ⟨rfl, hi, p⟩
  have q := hq i σ H hi p
  by_cases hlt : i < n
  · exact .inr ⟨⟨hlt, q⟩, Pv (i + 1), fun σ' H' p' => ⟨n - (i + 1), by omega, rfl, hlt, p'⟩, fun v H' y => hs i v σ H H' _ hlt p y fun _ _ h => h⟩
  · have e : i = n := by omega
    subst e
    exact .inl ⟨⟨rfl, q⟩, hd σ H p⟩
theorem kept_all (n : Nat) : kept (fun _ => true) n = List.range n := by
  unfold kept
  exact List.filter_eq_self.mpr fun _ _ => rfl
theorem range_getD {α : Type} (xs : List α) (d : α) : (List.range xs.length).map (fun i => xs.getD i d) = xs := by
  refine List.ext_getElem (by simp) fun i h1 h2 => ?_
  simp [List.getElem?_eq_getElem h2]
end G


set_option Elab.async false
set_option linter.all false
set_option maxRecDepth 100000
set_option maxHeartbeats 4000000
/-! Small tools for the readings. -/
namespace G
open PySem PySem.Spec PyProof.Rows L2
section
variable {K : PySem.W.Frag} {H : Hp} {Q : VK} {a : Addr} {xs : List V}
theorem sqA_l (h : H a = some (.lst xs)) : SqA K true H a xs := SqL.of h
theorem sqA_t (h : H a = some (.tup xs)) : SqA K false H a xs := SqT.of h
theorem all_l {bs : List Bool} (h : H a = some (.lst (bs.map V.bl))) (q : Q (.bl (bs.all id)) H) : rAll K [.ref a] H Q := ⟨a, bs, rfl, SqL.of h, q⟩
theorem any_l {bs : List Bool} (h : H a = some (.lst (bs.map V.bl))) (q : Q (.bl (bs.any id)) H) : rAny K [.ref a] H Q := ⟨a, bs, rfl, SqL.of h, q⟩
theorem sum_l {ns : List Int} (h : H a = some (.lst (ns.map V.int))) (q : Q (.int ns.sum) H) : rSum K [.ref a] H Q := ⟨a, ns, rfl, SqL.of h, q⟩
theorem min_l {ns : List Int} (h : H a = some (.lst (ns.map V.int))) (h0 : 0 < ns.length) (q : ∀ m, m ∈ ns → (∀ y, y ∈ ns → m ≤ y) → Q (.int m) H) : rMin K [.ref a] H Q := ⟨a, ns, rfl, SqL.of h, h0, q⟩
theorem max_l {ns : List Int} (h : H a = some (.lst (ns.map V.int))) (h0 : 0 < ns.length) (q : ∀ m, m ∈ ns → (∀ y, y ∈ ns → y ≤ m) → Q (.int m) H) : rMax K [.ref a] H Q := ⟨a, ns, rfl, SqL.of h, h0, q⟩
theorem ixN_nat {n k : Nat} (h : k < n) : ixN n (k : Nat) = some k := by
  unfold ixN
  rw [if_pos (Int.natCast_nonneg k), if_pos (by omega)]
  rfl
theorem ixN_neg1 {n : Nat} (h : 0 < n) : ixN n (-1) = some (n - 1) := by
  unfold ixN
  rw [if_neg (by omega)]
  split
  · congr 1; omega
  · omega
theorem atI_nat {α : Type} {xs : List α} {k : Nat} {v : α} (h : xs[k]? = some v) : atI xs (k : Nat) = some v := by
  unfold atI
  rw [ixN_nat (List.getElem?_eq_some_iff.mp h).1]
  exact h
theorem atI_int {α : Type} {xs : List α} {i : Int} {v : α} (h0 : 0 ≤ i) (h : xs[i.toNat]? = some v) : atI xs i = some v := by
  have z := atI_nat h
  rwa [Int.toNat_of_nonneg h0] at z
theorem atI_last {α : Type} {xs : List α} {v : α} : atI (xs ++ [v]) (-1) = some v := by
  unfold atI
  rw [ixN_neg1 (by simp)]
  simp
theorem ix_l {i : Int} {v : V} (h : H a = some (.lst xs)) (hi : atI xs i = some v) (q : Q v H) : rIx K (.ref a) (.int i) H Q := .inl ⟨a, xs, i, v, rfl, rfl, SqL.of h, hi, q⟩
theorem ix_t {i : Int} {v : V} (h : H a = some (.tup xs)) (hi : atI xs i = some v) (q : Q v H) : rIx K (.ref a) (.int i) H Q := .inr (.inl ⟨a, xs, i, v, rfl, rfl, SqT.of h, hi, q⟩)
theorem ixS {i : Int} {v : V} (h : SqL K H a xs) (hi : atI xs i = some v) (q : Q v H) : rIx K (.ref a) (.int i) H Q := .inl ⟨a, xs, i, v, rfl, rfl, h, hi, q⟩
theorem all_map {n : Nat} {b : Nat → Bool} : ((List.range n).map b).all id = true ↔ ∀ i, i < n → b i = true := by simp
theorem all_getD {xs : List V} {f : V → Bool} : ((List.range xs.length).map fun i => f (xs.getD i .non)).all id = xs.all f := by
  have z : (List.range xs.length).map (fun i => f (xs.getD i .non)) = xs.map f := by
    have e := congrArg (List.map f) (range_getD xs V.non)
    rw [List.map_map] at e
    exact e
  rw [z]
  simp [List.all_map]
end
theorem mapmap {α : Type} {f : α → Bool} {xs : List α} : (xs.map fun i => V.bl (f i)) = (xs.map f).map V.bl := by rw [List.map_map]; rfl
theorem mapmapI {α : Type} {f : α → Int} {xs : List α} : (xs.map fun i => V.int (f i)) = (xs.map f).map V.int := by rw [List.map_map]; rfl
theorem getD_lt {xs : List V} {i : Nat} {v : V} (h : i < xs.length) (e : xs.getD i .non = v) : v ∈ xs := by
  rw [← e, List.getD_eq_getElem?_getD, List.getElem?_eq_getElem h]
  exact List.getElem_mem h
/-! ### unpacking -/
theorem un2 {K : PySem.W.Frag} {H : Hp} {T : Addr} {a b : V} {P : V → V → Prop} (h : H T = some (.tup [a, b])) (p : P a b) :
    ∃ t, V.ref T = V.ref t ∧ ∃ x, SqT K H t x ∧ x.length = 2 ∧ ∃ v r, x = v :: r ∧ ∃ v1 r1, r = v1 :: r1 ∧ r1 = [] ∧ P v v1 := ⟨T, rfl, _, SqT.of h, rfl, _, _, rfl, _, _, rfl, rfl, p⟩
theorem un3 {K : PySem.W.Frag} {H : Hp} {T : Addr} {a b c : V} {P : V → V → V → Prop} (h : H T = some (.tup [a, b, c])) (p : P a b c) :
    ∃ t, V.ref T = V.ref t ∧ ∃ x, SqT K H t x ∧ x.length = 3 ∧ ∃ v r, x = v :: r ∧ ∃ v1 r1, r = v1 :: r1 ∧ ∃ v2 r2, r1 = v2 :: r2 ∧ r2 = [] ∧ P v v1 v2 := ⟨T, rfl, _, SqT.of h, rfl, _, _, rfl, _, _, rfl, _, _, rfl, rfl, p⟩
/-! ### ints -/
theorem getI {xs : List Int} {i : Nat} (h : i < xs.length) : (xs.map V.int).getD i .non = .int (xs.getD i 0) := by
  rw [List.getD_eq_getElem?_getD, List.getD_eq_getElem?_getD, List.getElem?_map, List.getElem?_eq_getElem h]; rfl
theorem atI_ints {xs : List Int} {i : Nat} (h : i < xs.length) : atI (xs.map V.int) (i : Nat) = some (.int (xs.getD i 0)) := by
  refine atI_nat ?_
  rw [List.getElem?_map, List.getD_eq_getElem?_getD, List.getElem?_eq_getElem h]; rfl
theorem getD_mem {α : Type} {xs : List α} {i : Nat} {d : α} (h : i < xs.length) : xs.getD i d ∈ xs := by
  rw [List.getD_eq_getElem?_getD, List.getElem?_eq_getElem h]
  exact List.getElem_mem h
/-- the rows of a table, by place -/
theorem rowAt {H : Hp} {ts : List Addr} {R : List (List Int)} (h : Paired (RowAt H) ts R) {i : Nat} (hi : i < R.length) : ∃ r, (ts.map V.ref).getD i .non = .ref r ∧ (ts.map V.ref)[i]? = some (.ref r) ∧ RowAt H r (R.getD i []) := by
  induction h generalizing i with
  | nil => exact absurd hi (Nat.not_lt_zero _)
  | cons r t ih =>
    cases i with
    | zero => exact ⟨_, rfl, rfl, r⟩
    | succ i => exact ih (Nat.lt_of_succ_lt_succ hi)
theorem rowAtI {H : Hp} {ts : List Addr} {R : List (List Int)} (h : Paired (RowAt H) ts R) {i : Int} (h0 : 0 ≤ i) (hi : i < R.length) : ∃ r, atI (ts.map V.ref) i = some (.ref r) ∧ RowAt H r (R.getD i.toNat []) := by
  obtain ⟨r, _, h2, h3⟩ := rowAt h (i := i.toNat) (by omega)
  exact ⟨r, atI_int h0 h2, h3⟩
theorem same_up {H H' : Hp} {p : Addr} {o : HO} (e : Same H H') (h : H' p = none) : Same H (upd H' p o) := e.trans (same_new (Same.refl H') h)
theorem paired_get {α β : Type} {F : α → β → Prop} {l : List α} {m : List β} (h : Paired F l m) {i : Nat} {a : α} (ha : l[i]? = some a) : ∃ b, m[i]? = some b ∧ F a b := by
  induction h generalizing i with
  | nil => exact nomatch ha
  | cons r t ih =>
    cases i with
    | zero => cases ha; exact ⟨_, rfl, r⟩
    | succ i => exact ih ha
theorem ints_acc {l : List Nat} {acc : List V} (h : Paired (fun (_ : Nat) v => ∃ z, v = V.int z) l acc) : ∃ ns : List Int, acc = ns.map V.int ∧ ns.length = l.length := by
  induction h with
  | nil => exact ⟨[], rfl, rfl⟩
  | cons r _ ih =>
    obtain ⟨z, rfl⟩ := r
    obtain ⟨ns, rfl, e⟩ := ih
    exact ⟨z :: ns, rfl, by rw [List.length_cons, List.length_cons, e]⟩
theorem smul {i j : Int} (h0 : -1000000 ≤ i) (h : i ≤ 1000000) : CMul i j := .inl ⟨by omega, by omega⟩
theorem smulR {i j : Int} (h0 : -1000000 ≤ j) (h : j ≤ 1000000) : CMul i j := .inr ⟨by omega, by omega⟩
end G


set_option Elab.async false
set_option linter.all false
set_option maxRecDepth 100000
set_option maxHeartbeats 4000000
/-! Methods, the rows of a table, the making of a table. -/
namespace G
open PySem PySem.Spec PyProof.Rows L2
section
variable {P : Program} {w : World} {K : PySem.W.Frag} {mg : Str → Option Value} {base : Heap}
/-- THE RULE for any def of the text -/
theorem fnx {x q : Str} {st : Stmt} {f : Addr} {fd : FuncData} {N ps : List Str} {k : Nat} {sp : Sp} (F : L2.Fun K x q st f fd) (S : C8.scC N ps (defScope st) = true) (len : ∀ vs H Q E, sp vs H Q E → vs.length = ps.length)
    (hbody : ∀ (cdv : Value) (A : Around) (outer : List Env) (s : Shared) (H : Hp) (vs : List V) (Q : VK) (E : XK), Room k (A.deeper (envOfC q (defScope st) s.heap.objs.size f cdv)) → N.Nodup →
      Takes (cxOf (L2.CX P w) P w K mg base N q (defScope st) f cdv A outer s H E) (fun cls d _ H' => E cls d H') →
      PassesOwn (model P w) (A.deeper (envOfC q (defScope st) s.heap.objs.size f cdv)) (envOfC q (defScope st) s.heap.objs.size f cdv) (cxOf (L2.CX P w) P w K mg base N q (defScope st) f cdv A outer s H E).xe → sp vs H Q E →
      ∃ t, PSs (cxOf (L2.CX P w) P w K mg base N q (defScope st) f cdv A outer s H E) (defBody st) t ∧ t { nx := fun _ H' => Q .non H', rt := Q } (start N vs) H) : FnOk P w K mg base (L2.CX P w) (k + 1) f fd ps sp := by
  have sc := C8.fnScope_by S
  exact F.okX sc len fun cdv A outer s H vs Q E hr h => hbody cdv A outer s H vs Q E hr sc.nd (takes_of rfl rfl rfl rfl) (passes_of rfl) h
/-- a method that may be called -/
structure MetX (P : Program) (w : World) (K : PySem.W.Frag) (mg : Str → Option Value) (base : Heap) (k : Nat) (C : Addr) (m : Str) (sp : Sp) : Prop where
  ex : ∃ (f : Addr) (fd : FuncData) (ps : List Str), Meth K C m f ∧ FnOk P w K mg base (L2.CX P w) k f fd ps sp ∧ Binds K fd ps []
/-- a class that may be made -/
structure MkX (P : Program) (w : World) (K : PySem.W.Frag) (mg : Str → Option Value) (base : Heap) (k : Nat) (x : Str) (C : Addr) (sp : Sp) : Prop where
  ex : ∃ (f : Addr) (fd : FuncData) (ps : List Str), L2.Mk K C f ∧ mg x = some (.ref C) ∧ FnOk P w K mg base (L2.CX P w) k f fd ps sp ∧ Binds K fd ps []
/-- where a method stands -/
structure DefM (K : PySem.W.Frag) (C : Addr) (m q : Str) (i j : Nat) : Prop where
  ex : ∃ (f : Addr) (fd : FuncData), L2.Fun K m q (inClass (top i) j) f fd ∧ Meth K C m f
structure DefI (K : PySem.W.Frag) (mg : Str → Option Value) (x : Str) (C : Addr) (q : Str) (i : Nat) : Prop where
  ex : ∃ (f : Addr) (fd : FuncData), L2.Fun K "__init__" q (inClass (top i) 0) f fd ∧ L2.Mk K C f ∧ mg x = some (.ref C)
end
section
variable {X : Cx} {k j : Nat} {C CT : Addr} {x m : Str} {sp : Sp} {p apos pos : Pos} {o e : Expr} {es : List Expr} {ta : TE} {t : TA}
theorem pe_mx {pl : Sem Bool} (c : MetX X.prog X.w X.K X.mg X.base k C m sp) (cl : Cls X.K C) (hr : Room j X.A) (hk : k ≤ j) (he : PE X o ta) (ha : PA X (e :: es) t)
    (hst : starEach (e :: es) X.env = (false, eval e X.env) :: starEach es X.env := by rfl) (hpl : (backTo pos (starEach es X.env)).any (·.1) = false := by rfl)
    (ht : eval (.Call (.Attribute o m apos) (e :: es) [] pos) X.env = (do
      let ov ← eval o X.env
      standAt apos.atName
      let (f, first) ← holding [ov] (getMethod ov m pl)
      callWith pos f first (backTo pos (starEach (e :: es) X.env)) (backToKw pos (keywordEach [] X.env))) := by rfl) :
    PE X (.Call (.Attribute o m apos) (e :: es) [] pos) (tMeth C m sp [] E0 ta t) := by
  obtain ⟨f, fd, ps, hm, F, b⟩ := c.ex
  exact pe_meth he cl hm F (hr.mono hk) b .nil passL ha hst hpl ht
theorem pe_mk (c : MkX X.prog X.w X.K X.mg X.base k x C sp) (hr : Room j X.A) (hk : k + 1 ≤ j) (ha : PA X (e :: es) t) (hg : Gl X x := by rfl)
    (hdb : (x == ("__debug__" : Str)) = false := by decide) (he : starEach (e :: es) X.env = (false, eval e X.env) :: starEach es X.env := by rfl) (hpl : (backTo pos (starEach es X.env)).any (·.1) = false := by rfl) :
    PE X (.Call (.Name x p) (e :: es) [] pos) (tMake C sp [] E0 t) := by
  obtain ⟨f, fd, ps, M, hm, F, b⟩ := c.ex
  exact pe_make M F (hr.mono hk) hg hm b .nil passL ha hdb he hpl
/-- e.rows -/
def tRows (CT : Addr) (te : TE) : TE := fun σ H Q => te σ H fun x H1 => ∃ R, Tb CT H1 x R ∧ ∀ r ts, H1 r = some (.tup (ts.map V.ref)) → Paired (RowAt H1) ts R → Q (.ref r) H1
theorem pe_rows {te : TE} (cl : Cls X.K CT) (n : NoAttr X.K CT "rows") (he : PE X e te) (hb : attributeBase e "rows" X.env (eval e X.env) = eval e X.env := by rfl) : PE X (.Attribute e "rows" pos) (tRows CT te) := by
  refine ⟨fun pins s σ H Q I h => ?_⟩
  refine attr_of hb (thn (he.run pins s σ H _ I h) fun u s1 ⟨x, H1, I1, rx, R, ⟨a, dx, r, ts, ex, ea, hr, hp⟩, q⟩ => ?_)
  subst ex
  obtain rfl : u = Value.ref a := rx
  exact getattr_ok I1 ea cl n rfl fun u s2 I2 r2 => ⟨_, H1, I2, r2, q r ts hr hp⟩
/-- Table(l), of a list of rows that are right -/
def spInit (CT : Addr) : Sp := fun vs H Q _ => ∃ (x dx l : Addr) (ts : List Addr) (R : List (List Int)) (w : Nat), vs = [.ref x, .ref l] ∧ H x = some (.ins CT dx []) ∧ H l = some (.lst (ts.map V.ref)) ∧ Paired (RowAt H) ts R ∧ Shp R w ∧
  ∀ H' r, (∀ b o, H b = some o → b ≠ x → H' b = some o) → H' x = some (.ins CT dx [("rows", .ref r)]) → H' r = some (.tup (ts.map V.ref)) → Q .non H'
def tTable (CT : Addr) (t : TA) : TE := fun σ H Q => t σ H fun vs H1 => ∃ (l : Addr) (ts : List Addr) (R : List (List Int)) (w : Nat), vs = [.ref l] ∧ H1 l = some (.lst (ts.map V.ref)) ∧ Paired (RowAt H1) ts R ∧ Shp R w ∧
  ∀ v H', Same H1 H' → Tb CT H' v R → Q v H'
theorem pe_mkTable (c : MkX X.prog X.w X.K X.mg X.base k x CT (spInit CT)) (hr : Room j X.A) (hk : k + 1 ≤ j) (ha : PA X (e :: es) t) (hg : Gl X x := by rfl)
    (hdb : (x == ("__debug__" : Str)) = false := by decide) (he : starEach (e :: es) X.env = (false, eval e X.env) :: starEach es X.env := by rfl) (hpl : (backTo pos (starEach es X.env)).any (·.1) = false := by rfl) :
    PE X (.Call (.Name x p) (e :: es) [] pos) (tTable CT t) := by
  obtain ⟨f, fd, ps, M, hm, F, b⟩ := c.ex
  refine ⟨fun pins s σ H Q I h => ?_⟩
  refine wpAny_Call_Name_kw (ld_glob I hg hm ?_ hdb)
  refine PySem.W.callWith_K (h₀ := X.base) I.ok.mod.kin M.kp (thn (ha.run pos pins s σ H _ I h) fun us s1 ⟨vs, H1, I1, r, q⟩ => ⟨I1.kIn, ?_⟩) he hpl
  refine run_make (dvs := []) M F (hr.mono hk) b .nil passL I1 r fun x dx nx ndx nex => ?_
  obtain ⟨l, ts, R, w, rfl, hl, hp, S, q⟩ := q
  have s0 : Same H1 (upd (upd H1 dx (.own x)) x (.ins CT dx [])) := fun b o e => by
    rw [upd_ne (ne_of_none e nx), upd_ne (ne_of_none e ndx)]
    exact e
  refine ⟨x, dx, l, ts, R, w, rfl, upd_same, s0 _ _ hl, Paired.imp2 hp fun _ _ h => s0 _ _ h, S, fun H' r k hx hr' => ⟨rfl, ?_⟩⟩
  have s1 : Same H1 H' := fun b o e => k b o (s0 b o e) (ne_of_none e nx)
  exact q _ H' s1 ⟨x, dx, r, ts, rfl, hx, hr', Paired.imp2 hp fun _ _ h => s1 _ _ h⟩
end
end G


set_option Elab.async false
set_option linter.all false
set_option maxRecDepth 100000
set_option maxHeartbeats 4000000
/-! tuple * int, also with 1. -/
namespace G
open PySem PySem.Spec PyProof.Rows L2
theorem tuple_mul1 (l : Addr) (items : Array Value) (n : Nat) (dd : Option Addr) (sl : Array (Option Value)) (u : Tok) :
    Meets (Builtin.«tuple.__mul__» ⟨[.ref l, .int 1 u], []⟩) (fun _ R s => s.heap.get? l = some { cls := .type "tuple", dict := dd, data := .seq items n, slots := sl } ∧
      R (.ok (.ret (Value.ref l))) s) :=
  .of_wp fun prog w A R s h => by
    obtain ⟨hp, g, d, tk, os⟩ := s
    obtain ⟨hl, h⟩ := h
    have f1 := AutoSeq1.idx_int
    have n0 : ¬ ((1:Int) < -(2 ^ 63) || (1:Int) ≥ 2 ^ 63) = true := by decide
    have n1 : (items.isEmpty || (1:Int) == 1) = true := by simp
    wp_walk using wpAny_loadPart' hl
    repeat (first
      | (refine wpAny_ite_false (decide_eq_false n0) ?_; wp_walk using wpAny_loadPart' hl)
      | (refine wpAny_ite_true (decide_eq_true n1) ?_; wp_walk using wpAny_loadPart' hl))
    exact ⟨_, rfl, h⟩
/-- (n,) * k: any tuple of k times n may come -/
def rMulT : R2 := fun x y H Q => ∃ l k v, x = .ref l ∧ y = .int k ∧ H l = some (.tup [v]) ∧ 1 ≤ k ∧ k ≤ 1000 ∧ ∀ r H', Same H H' → H' r = some (.tup (List.replicate k.toNat v)) → Q (.ref r) H'
theorem flat_rep {v : V} : ∀ n : Nat, (List.replicate n [v]).flatten = List.replicate n v
  | 0 => rfl
  | n + 1 => by rw [List.replicate_succ, List.flatten_cons, flat_rep n, List.replicate_succ]; rfl
theorem op_mulT {X : Cx} : OpR X (binaryOp .Mult) rMulT := by
  intro pins s σ H x y v u Q I rx ry h
  obtain ⟨l, k, z, rfl, rfl, hT, h1, h2, q⟩ := h
  by_cases hk : k = 1
  · subst hk
    cases rx
    obtain ⟨t, rfl⟩ := ry
    obtain ⟨its, r, ⟨⟨cls, dd, data, sl⟩, ho, hc, n, hd⟩, hs⟩ := I.tuple (SqT.of hT)
    simp only at hc hd
    subst hc hd
    refine wpAny_binaryOp_repeat_ref (T := "tuple") (U := "int") (by decide) ⟨_, ho, rfl⟩ (fun s' => typeIs_int s' 1 t) noFill_tuple_mul F.fills_int_mul F.slot_int_rmul repeat_tuple F.slot_int_index.lookup
      (call_meets F.slot_int_rmul (typeIs_int s 1 t) F.entry_int_rmul (F.args_int_rmul_2 _ _) (int_rmul_tuple 1 t l its.toArray n dd sl)
        ⟨ho, rfl, ⟨_, ho, rfl⟩, call_meets F.slot_tuple_mul ⟨_, ho, rfl⟩ F.entry_tuple_mul (F.args_tuple_mul_2 _ _) (tuple_mul1 l its.toArray n dd sl t) ⟨ho, ?_⟩⟩)
    exact ⟨.ref l, H, I, rfl, q l H (Same.refl H) hT⟩
  · refine op_repT pins s σ H _ _ v u Q I rx ry ⟨l, k, [z], rfl, rfl, SqT.of hT, by simp, by omega, h2, by simp, fun p hp => ?_⟩
    exact q p _ (same_new (Same.refl H) hp) (by rw [upd_same, flat_rep])
/-! ### rules with the fragment named (in a comprehension's block the context's own name for it will not do) -/
section
variable {X : Cx} {K : PySem.W.Frag}
theorem pg_tupK {es : List Expr} {k : Nat} {pos : Pos} {t : TGs} {n : Nat} (hK : X.K = K) (hc : X.calm = true) (h : PGs X es t) (hn : (assignEach es X.env).length = n := by rfl) (hst : (assignEach es X.env).findIdx? (·.1) = none := by rfl) : PG X (.Tuple es k pos) (gTup K n t) := by
  subst hK
  exact pg_tup hc h hn hst
theorem ixK (hK : X.K = K) : IxR X (rIx K) := by
  subst hK
  exact ix_seq
theorem call_lenK {CT : Addr} {j : Nat} (hK : X.K = K) (M : TabM X.prog X.w X.K X.mg X.base CT) (hr : Room j X.A) (hj : 2 ≤ j) : CallR X (.builtin "len") (rLenA K CT) := by
  subst hK
  exact call_lenA M hr hj
theorem inK (hK : X.K = K) : OpR X (compareOp .In) (rIn K false) := by
  subst hK
  exact op_in_seq
theorem notInK (hK : X.K = K) : OpR X (compareOp .NotIn) (rIn K true) := by
  subst hK
  exact op_notIn_seq
theorem piK_sq {tg e : Expr} {te : TE} (hK : X.K = K) (he : PE X e te) : PI X tg e (iSq K te) := by
  subst hK
  exact pi_sq he
end
end G


set_option Elab.async false
set_option linter.all false
set_option maxRecDepth 100000
set_option maxHeartbeats 4000000
/-! Further rules of our own. -/
namespace G
open PySem PySem.Spec PyProof.Rows L2
section
variable {X : Cx}
/-- sum(t) of a tuple of ints -/
def rSumT : List V → Hp → VK → Prop := fun vs H Q => ∃ (a : Addr) (ns : List Int), vs = [V.ref a] ∧ H a = some (.tup (ns.map V.int)) ∧ Q (.int ns.sum) H
theorem cr_sumT (hc : X.calm = true) : CallR X (.builtin "sum") rSumT := by
  intro pins s σ H vs us Q I r h
  obtain ⟨a, ns, rfl, hs, q⟩ := h
  obtain ⟨its, rv, hl, _⟩ := I.tuple (SqT.of hs)
  rw [Vals.ref1 r]
  have hi := rv.ints
  obtain ⟨xs, e⟩ := hi.allInts.items
  have hn : numsOf (intItems xs).toList = ns := by rw [← e]; exact hi.numsOf
  rw [nums_intItems] at hn
  rw [e] at hl
  have hl' : s.heap.IsTuple a (intItems xs) := hl
  have hlt : a < s.heap.objs.size := by
    obtain ⟨o, ho, _⟩ := id hl'
    exact Heap.lt_size ho
  refine call_sum_walkG (wpAny_pyIter_tuple hl' ?_)
  have h0 : ({ s with heap := s.heap.push { cls := .type "tuple_iterator", data := .fields #[.ref a, .int 0 0] } } : Shared).heap.IsTupleIter s.heap.objs.size a 0 := ⟨_, Heap.get?_push_size _ rfl, rfl, rfl⟩
  have h1 : (s.heap.push { cls := .type "tuple_iterator", data := .fields #[.ref a, .int 0 0] }).IsTuple a (intItems xs) := by
    obtain ⟨o, ho, z⟩ := id hl'
    exact ⟨o, Heap.get?_push_of_some _ ho, z⟩
  refine ⟨_, _, _, _, _, _, numAt xs, rfl, Walks.tuple (A := X.A.in1) (I.ok.hd hc) _ a (Nat.ne_of_lt hlt) (intItems xs), ⟨h0, h1⟩, fun b hb => ?_, (fun _ _ => intItems_at), fun h' tk t' hk => ?_⟩
  · show b < (s.heap.push _).objs.size
    rw [Heap.size_push]
    rcases List.mem_cons.mp hb with rfl | hb
    · exact Nat.lt_succ_self _
    · rcases List.mem_cons.mp hb with rfl | hb
      · exact Nat.lt_succ_of_lt hlt
      · cases hb
  · have e2 : preSum (numAt xs) (intItems xs).size = ns.sum := by
      rw [show (intItems xs).size = xs.size from by simp [intItems], preSum_eq, List.take_of_length_le (by simp), hn]
    rw [e2]
    refine ⟨.int _, H, I.kept (t' := tk) fun b o e => hk b o (fun z => ?_) (Heap.get?_push_of_some _ e), ⟨_, rfl⟩, q⟩
    have z : b = s.heap.objs.size := by simpa using z
    exact Nat.lt_irrefl _ (z ▸ Heap.lt_size e)
end
/-! ### is a list (a tuple) empty -/
theorem eqv_nilL (ds : List PyData) : PyData.eqv (.list ds) (.list []) = ds.isEmpty := by
  cases ds <;> rfl
theorem eqv_nilT (ds : List PyData) : PyData.eqv (.tuple ds) (.tuple []) = ds.isEmpty := by
  cases ds <;> rfl
theorem dp_len {K : PySem.W.Frag} {H : Hp} : ∀ {xs : List V} {ds : List PyData}, DpAll K H xs ds → xs.length = ds.length
  | _, _, .nil => rfl
  | _, _, .cons _ t => by rw [List.length_cons, List.length_cons, dp_len t]
theorem emp_len {α β : Type} {xs : List α} {ys : List β} (h : xs.length = ys.length) : xs.isEmpty = ys.isEmpty := by
  cases xs <;> cases ys <;> first | rfl | exact nomatch h
section
variable {K : PySem.W.Frag} {H : Hp} {Q : VK} {a b : Addr} {xs : List V} {ds : List PyData}
theorem ne_nilL (h : H a = some (.lst xs)) (d : DpAll K H xs ds) (s : SeqAt.shaped (.list ds) = true) (hb : H b = some (.lst [])) (q : Q (.bl (!xs.isEmpty)) H) : rNeD K (.ref a) (.ref b) H Q :=
  ⟨.list ds, .list [], .lst (SqL.of h) d, .lst (SqL.of hb) .nil, s, by decide +kernel, by rw [eqv_nilL, ← emp_len (dp_len d)]; exact q⟩
theorem eq_nilL (h : H a = some (.lst xs)) (d : DpAll K H xs ds) (s : SeqAt.shaped (.list ds) = true) (hb : H b = some (.lst [])) (q : Q (.bl xs.isEmpty) H) : rEqD K (.ref a) (.ref b) H Q :=
  ⟨.list ds, .list [], .lst (SqL.of h) d, .lst (SqL.of hb) .nil, s, by decide +kernel, by rw [eqv_nilL, ← emp_len (dp_len d)]; exact q⟩
theorem ne_nilT (h : H a = some (.tup xs)) (d : DpAll K H xs ds) (s : SeqAt.shaped (.tuple ds) = true) (hb : H b = some (.tup [])) (q : Q (.bl (!xs.isEmpty)) H) : rNeD K (.ref a) (.ref b) H Q :=
  ⟨.tuple ds, .tuple [], .tup (SqT.of h) d, .tup (SqT.of hb) .nil, s, by decide +kernel, by rw [eqv_nilT, ← emp_len (dp_len d)]; exact q⟩
end
/-- flat data -/
theorem dp_ints {K : PySem.W.Frag} {H : Hp} : ∀ ns : List Int, DpAll K H (ns.map V.int) (ns.map PyData.int)
  | [] => .nil
  | n :: ns => .cons (.int n) (dp_ints ns)
theorem dp_strs {K : PySem.W.Frag} {H : Hp} : ∀ ns : List Str, DpAll K H (ns.map V.str) (ns.map PyData.str)
  | [] => .nil
  | n :: ns => .cons (.str n) (dp_strs ns)
/-- tuples of ints -/
theorem dp_rows {K : PySem.W.Frag} {H : Hp} : ∀ {ts : List Addr} {R : List (List Int)}, Paired (RowAt H) ts R → DpAll K H (ts.map V.ref) (R.map fun r => PyData.tuple (r.map PyData.int))
  | _, _, .nil => .nil
  | _, _, .cons r t => .cons (.tup (SqT.of r) (dp_ints _)) (dp_rows t)
theorem sh_ints : ∀ ns : List Int, PyData.canLayAll0 (ns.map PyData.int) = true ∧ PyData.depthAll (ns.map PyData.int) = 0
  | [] => ⟨rfl, rfl⟩
  | n :: ns => by
    obtain ⟨h1, h2⟩ := sh_ints ns
    refine ⟨?_, ?_⟩
    · show (PyData.canLay0 (.int n) && PyData.canLayAll0 (ns.map PyData.int)) = true
      rw [h1]; rfl
    · show max (PyData.depth (.int n)) (PyData.depthAll (ns.map PyData.int)) = 0
      rw [h2]; rfl
theorem sh_intL (ns : List Int) : SeqAt.shaped (.list (ns.map PyData.int)) = true := by
  obtain ⟨h1, h2⟩ := sh_ints ns
  show (PyData.canLayAll0 (ns.map PyData.int) && decide (PyData.depthAll (ns.map PyData.int) + 1 ≤ 64)) = true
  rw [h1, h2]; rfl
theorem sh_intT (ns : List Int) : SeqAt.shaped (.tuple (ns.map PyData.int)) = true := sh_intL ns
theorem sh_rows1 : ∀ R : List (List Int), PyData.canLayAll0 (R.map fun r => PyData.tuple (r.map PyData.int)) = true ∧ PyData.depthAll (R.map fun r => PyData.tuple (r.map PyData.int)) ≤ 1
  | [] => ⟨rfl, Nat.zero_le _⟩
  | n :: ns => by
    obtain ⟨h1, h2⟩ := sh_rows1 ns
    obtain ⟨h3, h4⟩ := sh_ints n
    refine ⟨?_, ?_⟩
    · show (PyData.canLayAll0 (n.map PyData.int) && PyData.canLayAll0 (ns.map fun r => PyData.tuple (r.map PyData.int))) = true
      rw [h1, h3]; rfl
    · show max (PyData.depthAll (n.map PyData.int) + 1) (PyData.depthAll (ns.map fun r => PyData.tuple (r.map PyData.int))) ≤ 1
      rw [h4]
      omega
theorem sh_rows (R : List (List Int)) : SeqAt.shaped (.list (R.map fun r => PyData.tuple (r.map PyData.int))) = true := by
  obtain ⟨h1, h2⟩ := sh_rows1 R
  show (PyData.canLayAll0 (R.map fun r => PyData.tuple (r.map PyData.int)) && decide (PyData.depthAll (R.map fun r => PyData.tuple (r.map PyData.int)) + 1 ≤ 64)) = true
  rw [h1, decide_eq_true (by omega)]; rfl
theorem sl_listK {X : Cx} {K : PySem.W.Frag} (hK : X.K = K) : SlR X (rSlL K) := by
  subst hK
  exact sl_list
theorem sl_tupK {X : Cx} {K : PySem.W.Frag} (hK : X.K = K) : SlR X (rSlA K) := by
  subst hK
  exact sl_tupA
theorem tyL {K : PySem.W.Frag} {H : Hp} {a : Addr} {xs : List V} (h : H a = some (.lst xs)) : tyV K "list" (.ref a) H := .inl ⟨rfl, _, SqL.of h⟩
/-! ### a slice of a tuple: some tuple of these items -/
theorem cutV_whole {xs : List V} {lo hi : Option Int} (h : HT.sIx xs.length 0 lo = 0 ∧ HT.sIx xs.length xs.length hi = xs.length) : cutV xs lo hi = xs := by
  unfold cutV
  rw [h.1, h.2]
  simp
def rSlQ : V → Option Int → Option Int → Hp → VK → Prop := fun x lo hi H Q => ∃ a xs, x = .ref a ∧ H a = some (.tup xs) ∧ ∀ p H', Same H H' → H' p = some (.tup (cutV xs lo hi)) → Q (.ref p) H'
theorem sl_tupQ {X : Cx} : SlR X rSlQ := by
  intro pins s σ H x v vl vu lo hi sl Q I rx hs pl pu h
  obtain ⟨a, xs, rfl, hx, q⟩ := h
  exact sl_tupA pins s σ H _ v vl vu lo hi sl Q I rx hs pl pu ⟨a, xs, rfl, SqT.of hx, fun hw => q a H (Same.refl H) (by rw [cutV_whole hw]; exact hx), fun _ p hp => q p _ (same_new (Same.refl H) hp) upd_same⟩
/-! ### a list that grows -/
theorem paired_snoc_inv {α β : Type} {F : α → β → Prop} : ∀ {l : List α} {m : List β} {b : β}, Paired F l (m ++ [b]) → ∃ l' a, l = l' ++ [a] ∧ Paired F l' m ∧ F a b
  | _, [], _, .cons r .nil => ⟨[], _, rfl, .nil, r⟩
  | _, c :: m, _, .cons r t => by
    obtain ⟨l', a, rfl, h1, h2⟩ := paired_snoc_inv t
    exact ⟨_ :: l', a, rfl, .cons r h1, h2⟩
theorem rows_same {H H' : Hp} {ts : List Addr} {R : List (List Int)} (h : Paired (RowAt H) ts R) (e : Same H H') : Paired (RowAt H') ts R := Paired.imp2 h fun _ _ z => e _ _ z
theorem rows_keep {H : Hp} {L : Addr} {acc acc' : List V} {ts : List Addr} {R : List (List Int)} (h : Paired (RowAt H) ts R) (hL : H L = some (.lst acc)) : Paired (RowAt (upd H L (.lst acc'))) ts R :=
  Paired.imp2 h fun t r z => by
    have ne : t ≠ L := fun e => by
      have z' : H t = _ := z
      rw [e, hL] at z'
      exact nomatch z'
    show upd H L _ t = _
    rw [upd_ne ne]
    exact z
theorem upd_lst {H : Hp} {L p : Addr} {o : HO} {acc : List V} (hL : H L = some (.lst acc)) (hp : H p = none) : upd H p o L = some (.lst acc) := by
  rw [upd_ne (ne_of_none hL hp)]
  exact hL
theorem tyL2 {K : PySem.W.Frag} {H : Hp} {a : Addr} {xs : List V} (h : SqL K H a xs) : tyV K "list" (.ref a) H := .inl ⟨rfl, _, h⟩
theorem small {n : Nat} (h : n ≤ 100000) : n < sizeLine := Nat.lt_of_le_of_lt h (by rw [sizeLine_eq]; decide)
theorem small' {n : Nat} (h : n ≤ 100000) : n ≤ sizeLine := Nat.le_of_lt (small h)
/-! ### t.column(i) -/
/-- the values of a column -/
def col (R : List (List Int)) (i : Nat) : List Int := R.map fun r => r.getD i 0
/-- t.column(i), 0 ≤ i < width -/
def spCol (CT : Addr) : Sp := fun vs H Q _ => ∃ (v : V) (R : List (List Int)) (w i : Nat), vs = [v, .int (i : Nat)] ∧ Tb CT H v R ∧ Shp R w ∧ i < w ∧ ∀ H' L, Same H H' → H L = none → H' L = some (.lst ((col R i).map V.int)) → Q (.ref L) H'
def tCol (CT : Addr) (ta : TE) (t : TA) : TE := fun σ H Q => ta σ H fun x H1 => (∃ R, Tb CT H1 x R) ∧ t σ H1 fun vs H2 => ∃ (R : List (List Int)) (w i : Nat), vs = [.int (i : Nat)] ∧ Tb CT H2 x R ∧ Shp R w ∧ i < w ∧ ∀ H' L, Same H2 H' → H2 L = none → H' L = some (.lst ((col R i).map V.int)) → Q (.ref L) H'
theorem pe_col {X : Cx} {k j : Nat} {CT : Addr} {apos pos : Pos} {o e : Expr} {es : List Expr} {ta : TE} {t : TA} {pl : Sem Bool} (c : MetX X.prog X.w X.K X.mg X.base k CT "column" (spCol CT)) (cl : Cls X.K CT) (hr : Room j X.A) (hk : k ≤ j) (he : PE X o ta) (ha : PA X (e :: es) t)
    (hst : starEach (e :: es) X.env = (false, eval e X.env) :: starEach es X.env := by rfl) (hpl : (backTo pos (starEach es X.env)).any (·.1) = false := by rfl)
    (ht : eval (.Call (.Attribute o "column" apos) (e :: es) [] pos) X.env = (do
      let ov ← eval o X.env
      standAt apos.atName
      let (f, first) ← holding [ov] (getMethod ov "column" pl)
      callWith pos f first (backTo pos (starEach (e :: es) X.env)) (backToKw pos (keywordEach [] X.env))) := by rfl) :
    PE X (.Call (.Attribute o "column" apos) (e :: es) [] pos) (tCol CT ta t) := by
  obtain ⟨f, fd, ps, hm, F, b⟩ := c.ex
  refine ⟨fun pins s σ H Q I h => ?_⟩
  refine PySem.W.methodCall_KW (pl := pl) (thn (he.run pins s σ H _ I h) fun u s1 ⟨x, H1, I1, rx, ⟨R, a, dx, r, ts, ex, ea, hr', hp'⟩, q⟩ => ?_) ht
  subst ex
  obtain rfl : u = Value.ref a := rx
  refine getmeth_ok I1 ea cl hm rfl ?_
  refine PySem.W.callWith_K (first := [.ref a]) (h₀ := X.base) I.ok.mod.kin hm.kp (thn (ha.run pos pins s1 σ H1 _ I1 q) fun us s2 ⟨vs, H2, I2, r, R', w, i, ev, t2, S, hi, q2⟩ => ⟨I2.kIn, ?_⟩) hst hpl
  subst ev
  exact run_fn (us := .ref a :: us) (vs := [.ref a, .int (i : Nat)]) F (hr.mono hk) b .nil passL I2 (.cons rfl r) ⟨_, R', w, i, rfl, t2, S, hi, q2⟩
theorem cutV_from {xs : List V} {k : Nat} : cutV xs (some (k : Int)) none = xs.drop k := by
  unfold cutV
  rw [HT.sIx_nat, HT.sIx_none]
  by_cases h : k ≤ xs.length
  · rw [Nat.min_eq_left h, List.take_of_length_le (by simp)]
  · rw [Nat.min_eq_right (by omega), List.drop_of_length_le (by omega), List.drop_of_length_le (by omega)]
    simp
theorem getD_drop {xs : List V} {k i : Nat} : (xs.drop k).getD i .non = xs.getD (k + i) .non := by
  rw [List.getD_eq_getElem?_getD, List.getD_eq_getElem?_getD, List.getElem?_drop]
theorem cutV_ints {xs : List Int} {lo hi : Option Int} : ∃ ys : List Int, cutV (xs.map V.int) lo hi = ys.map V.int ∧ ys.length ≤ xs.length := by
  unfold cutV
  refine ⟨(xs.drop (HT.sIx (xs.map V.int).length 0 lo)).take (HT.sIx (xs.map V.int).length (xs.map V.int).length hi - HT.sIx (xs.map V.int).length 0 lo), ?_, ?_⟩
  · rw [List.map_take, List.map_drop]
  · rw [List.length_take, List.length_drop]
    omega
theorem col_len (R : List (List Int)) (i : Nat) : (col R i).length = R.length := by
  unfold col
  exact List.length_map _
theorem tFor_def (wi : TI) (g : TG) (tb : TS) (D : Ends) (σ : L2.St) (H : Hp) : tFor wi g tb D σ H = wi σ H fun J H1 => ∃ W : Nat → Nat → L2.St → Hp → Prop, (∃ m, W 0 m σ H1) ∧ ∀ i m σ H, W i m σ H →
  (J.stop i H ∧ D.nx σ H) ∨ (J.go i H ∧ ∃ N : L2.St → Hp → Prop, (∀ σ' H', N σ' H' → ∃ m', m' < m ∧ W (i + 1) m' σ' H') ∧ ∀ x H', J.yld i H x H' → g x σ H' fun σ2 H2 => tb { D with nx := N, ct := N, bk := D.nx } σ2 H2) := rfl
theorem tLc_def (wi : TI) (g : TG) (tt : TT) (te : TE) (vs : List Nat) (σ : L2.St) (H : Hp) (Q : VK) : tLc wi g tt te vs σ H Q = wi σ H fun J H1 => ∀ D, H1 D = none → ∃ W : Nat → Nat → Hp → Prop, (∃ m, W 0 m (upd H1 D (.lst []))) ∧ ∀ i m H, W i m H →
  (J.stop i H ∧ Q (.ref D) H) ∨ (J.go i H ∧ ∃ Nx : Hp → Prop, (∀ H', Nx H' → ∃ m', m' < m ∧ W (i + 1) m' H') ∧ ∀ x H', J.yld i H x H' → g x (wipe σ vs) H' fun σ2 H2 => wipe σ2 vs = wipe σ vs ∧ tt σ2 H2 fun b H3 =>
    if b = true then te σ2 H3 fun y H4 => ∃ acc, H4 D = some (.lst acc) ∧ acc.length < sizeLine ∧ Nx (upd H4 D (.lst (acc ++ [y]))) else Nx H3) := rfl
theorem tWhile_def (c : TT) (tb : TS) (D : Ends) (σ : L2.St) (H : Hp) : tWhile c tb D σ H = ∃ W : Nat → L2.St → Hp → Prop, (∃ m, W m σ H) ∧ ∀ m σ H, W m σ H →
  c σ H fun b H1 => if b = true then ∃ N : L2.St → Hp → Prop, (∀ σ' H', N σ' H' → ∃ m', m' < m ∧ W m' σ' H') ∧ tb { D with nx := N, ct := N, bk := D.nx } σ H1 else D.nx σ H1 := rfl
/-- a while, by a measure -/
theorem whileB {C : (L2.St → Hp → Prop) → L2.St → Hp → Prop} {σ : L2.St} {H : Hp} (Pv : Nat → L2.St → Hp → Prop) (h0 : ∃ m, Pv m σ H)
    (hs : ∀ (m : Nat) (σ : L2.St) (H : Hp) (Nx : L2.St → Hp → Prop), Pv m σ H → (∀ m' σ2 H2, m' < m → Pv m' σ2 H2 → Nx σ2 H2) → C Nx σ H)
    (mono : ∀ Nx Nx' : L2.St → Hp → Prop, True) : True := trivial
end G


set_option Elab.async false
set_option linter.all false
set_option maxRecDepth 100000
set_option maxHeartbeats 4000000
set_option pp.deepTerms true
set_option pp.maxSteps 100000
set_option format.width 230
namespace G
open PySem PySem.Spec PyProof.Rows L2
local macro_rules | `(tactic| walk_at "rd") => `(tactic| simp only [cxOf_K, tSeq, tIfS, tTest, tB, tCB, tCons, tNil, tC, tVar, tOp, tUn, tAndV, tOrV, tNotV, tAnd, tOr, tNot, tIf, tChain, tRet, tRetN, tAsg, gName, tDrop, tNext, tCallS, WE, rI0, rI, rU, L2.start, tYes, tLc, tFor, gTup, gCons, gNil, tPar, tPar3, tAug, ipI, tWidth, tCall, tMeth, tMake, tFld, tRows, tTable, sFld, rMulT, rSumT, gSub, tBM, rAppend, rSetL, rExtend, rSlL, rSlQ, tCol, Int.toNat_natCast,  tSl, tNoPart, tPart, tTup, tLst, tNever, itu_g,
  List.map_cons, List.map_nil, List.length_cons, List.length_nil, List.cons_append, List.nil_append, List.replicate, Nat.reduceAdd, Nat.reduceSub, Nat.zero_add, Nat.sub_self,
  List.getElem?_cons_zero, List.getElem?_cons_succ, List.set_cons_zero, List.set_cons_succ, wipe, Option.some.injEq, exists_eq_left', exists_eq_left, V.bl.injEq, V.int.injEq, ref_inj, ty_inj, if_true, if_false, Bool.false_eq_true, Bool.true_eq_false, exists_const, exists_and_left, true_and, and_true, List.cons.injEq,
  isB_int, isB_bool, isB_tuple, isB_list, isT_at, iSq, iRg1, iRg2, iZ2, iZ3, iEn])
local macro_rules | `(tactic| walk_at "r1") => `(tactic| simp only [cxOf_K, tSeq, tIfS, tTest, tB, tCB, tCons, tNil, tC, tVar, tOp, tUn, tAndV, tOrV, tNotV, tAnd, tOr, tNot, tIf, tChain, tRet, tRetN, tAsg, gName, tDrop, tNext, tCallS, WE, rI0, rI, rU, L2.start, tYes, gTup, gCons, gNil, tPar, tPar3, tAug, ipI, tWidth, tCall, tMeth, tMake, tFld, tRows, tTable, sFld, rMulT, rSumT, gSub, tBM, rAppend, rSetL, rExtend, rSlL, rSlQ, tCol, Int.toNat_natCast,  tSl, tNoPart, tPart, tTup, tLst, tNever, itu_g,
  List.map_cons, List.map_nil, List.length_cons, List.length_nil, List.cons_append, List.nil_append, List.replicate, Nat.reduceAdd, Nat.reduceSub, Nat.zero_add, Nat.sub_self,
  List.getElem?_cons_zero, List.getElem?_cons_succ, List.set_cons_zero, List.set_cons_succ, wipe, Option.some.injEq, exists_eq_left', exists_eq_left, V.bl.injEq, V.int.injEq, ref_inj, ty_inj, if_true, if_false, Bool.false_eq_true, Bool.true_eq_false, exists_const, exists_and_left, true_and, and_true, List.cons.injEq,
  isB_int, isB_bool, isB_tuple, isB_list, isT_at, iSq, iRg1, iRg2, iZ2, iZ3, iEn])
local macro_rules | `(tactic| walk_at "lp") => `(tactic| first | rw [tFor_def] | rw [tLc_def] | rw [tWhile_def])
local macro_rules | `(tactic| walk_at "ex") => `(tactic| simp only [List.cons.injEq, and_true, true_and, and_assoc, exists_and_left, exists_eq_left', exists_eq_left, exists_eq_right, exists_const, V.int.injEq, V.bl.injEq, ref_inj, Bool.not_true, Bool.not_false, Bool.false_eq_true, if_true, if_false, Bool.true_eq_false])
section
variable {P : Program} {w : World} {K : PySem.W.Frag} {mg : Str → Option Value} {base : Heap} {a : Ad}
theorem isNum_of {v : V} {lo hi : Int} (h : isNum v lo hi = true) : ∃ i : Int, v = .int i ∧ lo ≤ i ∧ i ≤ hi := by
  cases v with
  | int i =>
    rw [isNum, Bool.and_eq_true, decide_eq_true_eq, decide_eq_true_eq] at h
    exact ⟨i, rfl, h.1, h.2⟩
  | _ => exact nomatch h
theorem isNum_int {i lo hi : Int} : isNum (.int i) lo hi = (decide (lo ≤ i) && decide (i ≤ hi)) := rfl
/-- prices that are right, for a width -/
def prB (H : Hp) : V → Nat → Bool
  | .ref a, w => match H a with
    | some (.tup xs) => decide (xs.length = w) && xs.all fun x => isNum x 0 9
    | _ => false
  | _, _ => false
/-- a value whose type is known; a tuple's elements, too -/
def TgP (CT : Addr) (H : Hp) (v : V) : Prop := Tg CT H v ∧ ∀ a xs, v = .ref a → H a = some (.tup xs) → (∀ x ∈ xs, Tg CT H x) ∧ xs.length ≤ 100
theorem TgP.same {CT : Addr} {H H' : Hp} {v : V} (g : TgP CT H v) (e : Same H H') : TgP CT H' v := by
  refine ⟨g.1.same e, fun a xs hv h => ?_⟩
  subst hv
  have k : ∀ o, H a = some o → o = .tup xs := fun o ho => by
    have z := e _ _ ho
    rw [h] at z
    exact (Option.some.inj z).symm
  have k2 : H a = some (.tup xs) := by
    obtain ⟨g1, _⟩ := g
    cases g1 with
    | lst ha => exact nomatch k _ ha
    | tup ha => rw [k _ ha] at ha; exact ha
    | dK ha => exact nomatch k _ ha
    | tab ha => exact nomatch k _ ha
  obtain ⟨q1, q2⟩ := g.2 a xs rfl k2
  exact ⟨fun x hx => (q1 x hx).same e, q2⟩
theorem prB_same {CT : Addr} {H H' : Hp} {v : V} {n : Nat} (g : Tg CT H v) (e : Same H H') : prB H' v n = prB H v n := by
  cases g with
  | non => rfl
  | bl b => rfl
  | int i => rfl
  | str s => rfl
  | lst h => unfold prB; simp only [h, e _ _ h]
  | tup h => unfold prB; simp only [h, e _ _ h]
  | dK h => unfold prB; simp only [h, e _ _ h]
  | tab h => unfold prB; simp only [h, e _ _ h]
/-- right prices -/
def PrAt (H : Hp) (v : V) (ps : List Int) : Prop := ∃ p, v = .ref p ∧ H p = some (.tup (ps.map V.int)) ∧ ∀ x ∈ ps, 0 ≤ x ∧ x ≤ 9
theorem PrAt.same {H H' : Hp} {v : V} {ps : List Int} (t : PrAt H v ps) (e : Same H H') : PrAt H' v ps := by
  obtain ⟨p, rfl, h, q⟩ := t
  exact ⟨p, rfl, e _ _ h, q⟩
theorem ints_of : ∀ {xs : List V} {lo hi : Int}, (xs.all fun x => isNum x lo hi) = true → ∃ ps : List Int, xs = ps.map V.int ∧ ∀ x ∈ ps, lo ≤ x ∧ x ≤ hi
  | [], _, _, _ => ⟨[], rfl, fun _ h => nomatch h⟩
  | x :: xs, lo, hi, h => by
    rw [List.all_cons, Bool.and_eq_true] at h
    obtain ⟨i, rfl, h1, h2⟩ := isNum_of h.1
    obtain ⟨ps, rfl, q⟩ := ints_of h.2
    exact ⟨i :: ps, rfl, fun x hx => by
      rcases List.mem_cons.mp hx with rfl | hx
      · exact ⟨h1, h2⟩
      · exact q x hx⟩
theorem prB_of {H : Hp} {v : V} {n : Nat} (h : prB H v n = true) : ∃ ps : List Int, PrAt H v ps ∧ ps.length = n := by
  cases v with
  | ref a =>
    unfold prB at h
    cases ha : H a with
    | none => simp [ha] at h
    | some o =>
      cases o with
      | tup xs =>
        simp only [ha, Bool.and_eq_true, decide_eq_true_eq] at h
        obtain ⟨ps, rfl, q⟩ := ints_of h.2
        exact ⟨ps, ⟨a, rfl, ha, q⟩, by simpa using h.1⟩
      | _ => simp [ha] at h
  | _ => exact nomatch h
/-- is_number(v, lo, hi) -/
def spNum (CT : Addr) : Sp := fun vs H Q _ => ∃ (v : V) (lo hi : Int), vs = [v, .int lo, .int hi] ∧ Tg CT H v ∧ Q (.bl (isNum v lo hi)) H
abbrev N_is_number : List Str := ["thing", "least", "most"]
theorem ok_is_number (D : Def K mg "is_number" 16) (T : Txt K mg a) : CalX P w K mg base 1 "is_number" (spNum a.CT) := by
  refine calx (N := N_is_number) (ps := ["thing", "least", "most"]) D (by decide +kernel) (fun vs H Q E h => ?_) (fun _ _ _ _ _ _ us hl => match us, hl with | [_, _, _], _ => rfl) (fun f cdv A outer s H vs Q E hr nd tk pn h => ⟨_, (pss_one (ps_ret (pe_and (pe_callB (call_isB T.k) (by rfl) T.isinstance bi_isinstance (pa_cons (pv 0) (pa_cons (pe_bltn (v := .ty "int") (by rfl) T.int bi_int rfl) pa_nil))) (pe_and (pe_not (pe_callB (call_isB T.k) (by rfl) T.isinstance bi_isinstance (pa_cons (pv 0) (pa_cons (pe_bltn (v := .ty "bool") (by rfl) T.bool bi_bool rfl) pa_nil)))) (pe_one (pe_chain op_le op_le (pv 1) (pv 0) (pv 2))))))), ?_⟩)
  · obtain ⟨v, lo, hi, rfl, _⟩ := h
    rfl
  · obtain ⟨v, lo, hi, rfl, g, q⟩ := h
    clear tk pn nd hr
    walk_at "rd"
    refine ⟨g, ?_⟩
    cases g with
    | int i =>
      simp only [isB, isNum_int] at q ⊢
      refine ⟨.int i, i, rfl, ?_⟩
      by_cases h1 : lo ≤ i
      · simp only [decide_eq_true h1, Bool.true_and, if_true] at q ⊢
        exact ⟨i, rfl, q⟩
      · simp only [decide_eq_false h1, Bool.false_and, Bool.false_eq_true, if_false] at q ⊢
        exact q
    | bl b => simp only [isB]; exact ⟨.bl b, q⟩
    | non => exact q
    | str s => exact q
    | lst h => simp only [isB, h]; exact q
    | tup h => simp only [isB, h]; exact q
    | dK h => simp only [isB, h]; exact q
    | tab h => simp only [isB, h]; exact q
/-- check_table(v) -/
def spCT (a : Ad) : Sp := fun vs H Q E => ∃ v, vs = [v] ∧ Tg a.CT H v ∧ (isT a.CT H v = true → Q .non H) ∧ (isT a.CT H v = false → E (.ref a.cBT) none H)
abbrev N_check_table : List Str := ["table"]
theorem ok_check_table (D : Def K mg "check_table" 20) (T : Txt K mg a) : CalX P w K mg base 1 "check_table" (spCT a) := by
  refine calx (N := N_check_table) (ps := ["table"]) D (by decide +kernel) (fun vs H Q E h => ?_) (fun _ _ _ _ _ _ us hl => match us, hl with | [_], _ => rfl) (fun f cdv A outer s H vs Q E hr nd tk pn h => ⟨_, (pss_one (ps_if (pt_not (pt_val (pe_callB (call_isT T.k) (by rfl) T.isinstance bi_isinstance (pa_cons (pv 0) (pa_cons (C8.pe_gc (by rfl) T.vTable) pa_nil)))))
      (pss_one (ps_rz T.BadTable tk))
      pss_nil)), ?_⟩)
  · obtain ⟨v, rfl, _⟩ := h
    rfl
  · obtain ⟨v, rfl, g, q1, q2⟩ := h
    clear tk pn nd hr
    walk_at "rd"
    refine ⟨g, ?_⟩
    cases h : isT a.CT H v with
    | true => simp only [Bool.not_true, Bool.false_eq_true, if_false]; exact q1 h
    | false => simp only [Bool.not_false, if_true]; exact q2 h
/-- check_column(table, place) -/
def spCC (a : Ad) : Sp := fun vs H Q E => ∃ v p row R, vs = [v, p] ∧ Tb a.CT H v (row :: R) ∧ Tg a.CT H p ∧ (isNum p 0 (row.length - 1) = true → Q .non H) ∧ (isNum p 0 (row.length - 1) = false → E (.ref a.cBC) none H)
abbrev N_check_column : List Str := ["table", "place"]
theorem ok_check_column (D : Def K mg "check_column" 21) (T : Txt K mg a) (M : TabM P w K mg base a.CT) (c_is_number : CalX P w K mg base 1 "is_number" (spNum a.CT)) : CalX P w K mg base 3 "check_column" (spCC a) := by
  refine calx (N := N_check_column) (ps := ["table", "place"]) D (by decide +kernel) (fun vs H Q E h => ?_) (fun _ _ _ _ _ _ us hl => match us, hl with | [_, _], _ => rfl) (fun f cdv A outer s H vs Q E hr nd tk pn h => ⟨_, (pss_one (ps_if (pt_not (pt_val (pe_cx c_is_number hr (by decide) tk (pa_cons (pv 1) (pa_cons pe_int (pa_cons (pe_op op_sub (pe_width M hr (by decide) (pv 0)) pe_int) pa_nil))))))
      (pss_one (ps_rz T.BadColumn tk))
      pss_nil)), ?_⟩)
  · obtain ⟨v, p, row, R, rfl, _⟩ := h
    rfl
  · obtain ⟨v, p, row, R, rfl, t, g, q1, q2⟩ := h
    clear tk pn nd hr
    walk_at "rd"
    simp only [spNum]
    walk_at "ex"
    refine ⟨row, R, t, g, ?_⟩
    cases h : isNum p 0 (row.length - 1) with
    | true => simp only [Bool.not_true, Bool.false_eq_true, if_false]; exact q1 h
    | false => simp only [Bool.not_false, if_true]; exact q2 h
/-- check_prices(table, prices) -/
def spCP (a : Ad) : Sp := fun vs H Q E => ∃ v p row R, vs = [v, p] ∧ Tb a.CT H v (row :: R) ∧ TgP a.CT H p ∧ (prB H p row.length = true → ∀ H', Same H H' → Q .non H') ∧ (prB H p row.length = false → ∀ H', Same H H' → E (.ref a.cBP) none H')
abbrev N_check_prices : List Str := ["table", "prices", "price"]
theorem ok_check_prices (D : Def K mg "check_prices" 22) (T : Txt K mg a) (M : TabM P w K mg base a.CT) (c_is_number : CalX P w K mg base 1 "is_number" (spNum a.CT)) : CalX P w K mg base 3 "check_prices" (spCP a) := by
  refine calx (N := N_check_prices) (ps := ["table", "prices"]) D (by decide +kernel) (fun vs H Q E h => ?_) (fun _ _ _ _ _ _ us hl => match us, hl with | [_, _], _ => rfl) (fun f cdv A outer s H vs Q E hr nd tk pn h => ⟨_, (pss_cons (ps_if (PW.pt (pw_or (pt_not (pt_val (pe_callB (call_isB T.k) (by rfl) T.isinstance bi_isinstance (pa_cons (pv 1) (pa_cons (pe_bltn (v := .ty "tuple") (by rfl) T.tuple bi_tuple rfl) pa_nil))))) (pw_or1 (pt_cmpR op_ne (pe_callB (call_lenK (K := K) rfl M hr (by decide)) (by rfl) T.len bi_len (pa_cons (pv 1) pa_nil)) (pe_width M hr (by decide) (pv 0)) (nomark _)))))
      (pss_one (ps_rz T.BadPrices tk))
      pss_nil)
      (pss_one (ps_if (pt_not (pt_val (pe_callB (cr_all rfl) (by rfl) T.all bi_all (pa_cons (pe_lc (own := [("price", 2)]) rfl nd (pi_sq (pv 1)) (blkOk_by (own := [("price", 2)]) (N := N_check_prices) (sc := defScope (top 22)) (by decide +kernel)) (fun _ _ _ _ _ => (pg_name (i := 2) nd rfl (Or.inl rfl))) (fun _ _ _ _ _ => pts_nil) (fun _ _ _ _ _ => (pe_cx c_is_number hr (by decide) tk0 (pa_cons (pv 2) (pa_cons pe_int (pa_cons (C8.pe_gc (by rfl) T.mprice) pa_nil)))))) pa_nil))))
      (pss_one (ps_rz T.BadPrices tk))
      pss_nil))), ?_⟩)
  · obtain ⟨v, p, row, R, rfl, _⟩ := h
    rfl
  · obtain ⟨v, p, row, R, rfl, t, g, q1, q2⟩ := h
    clear tk pn nd hr
    walk_at "rd"
    simp only [spNum]
    walk_at "ex"
    refine ⟨g.1, ?_⟩
    have no : prB H p row.length = false → E (.ref a.cBP) none H := fun h => q2 h H (Same.refl H)
    obtain ⟨g1, g2⟩ := g
    cases g1 with
    | tup hp =>
      rename_i pa xs
      obtain ⟨gx, gl⟩ := g2 pa xs rfl hp
      simp only [isB, hp, beq_self_eq_true, Bool.not_true, Bool.false_eq_true, if_false]
      refine len_t hp ⟨row, R, t, rfl, _, rfl, ?_⟩
      have pb : prB H (.ref pa) row.length = (decide (xs.length = row.length) && xs.all fun x => isNum x 0 9) := by unfold prB; simp only [hp]
      rw [pb] at q1 q2
      split
      · next h =>
        refine no ?_
        rw [pb]
        simp only [dec_int, Bool.not_eq_true', beq_eq_false_iff_ne, ne_eq] at h
        have : ¬ xs.length = row.length := by omega
        simp [this]
      · next h =>
        simp only [dec_int, Bool.not_eq_true', beq_eq_false_iff_ne, ne_eq] at h
        have hl : xs.length = row.length := by omega
        simp only [hl, decide_true, Bool.true_and] at q1 q2
        refine ⟨pa, rfl, false, xs, sqA_t hp, fun D hD => ?_⟩
        refine lcA (fun i => .bl (isNum (xs.getD i .non) 0 9)) hD (by omega) (fun H' e => sqA_t (e _ _ hp)) (fun i v H1 H2 acc Nx hi e1 ha y k => ?_) (fun H' e h => ?_)
        · obtain ⟨rfl, rfl⟩ := y
          exact ⟨(gx _ (getD_lt hi rfl)).same e1, k _ (Same.refl _)⟩
        · refine all_l (bs := (List.range xs.length).map fun i => isNum (xs.getD i .non) 0 9) (by rw [h, mapmap]) ⟨_, rfl, ?_⟩
          rw [all_getD (f := fun v => isNum v 0 9)]
          cases hb : xs.all fun x => isNum x 0 9 with
          | true => simp only [Bool.not_true, Bool.false_eq_true, if_false]; exact q1 hb H' e
          | false => simp only [Bool.not_false, if_true]; exact q2 hb H' e
    | lst h => simp only [isB, h]; exact no (by unfold prB; simp only [h])
    | dK h => simp only [isB, h]; exact no (by unfold prB; simp only [h])
    | tab h => simp only [isB, h]; exact no (by unfold prB; simp only [h])
    | _ => exact no rfl
end
end G


set_option Elab.async false
set_option linter.all false
set_option maxRecDepth 100000
set_option maxHeartbeats 4000000
set_option pp.deepTerms true
set_option pp.maxSteps 100000
set_option format.width 230
namespace G
open PySem PySem.Spec PyProof.Rows L2
local macro_rules | `(tactic| walk_at "rd") => `(tactic| simp only [cxOf_K, tSeq, tIfS, tTest, tB, tCB, tCons, tNil, tC, tVar, tOp, tUn, tAndV, tOrV, tNotV, tAnd, tOr, tNot, tIf, tChain, tRet, tRetN, tAsg, gName, tDrop, tNext, tCallS, WE, rI0, rI, rU, L2.start, tYes, tLc, tFor, gTup, gCons, gNil, tPar, tPar3, tAug, ipI, tWidth, tCall, tMeth, tMake, tFld, tRows, tTable, sFld, rMulT, rSumT, gSub, tBM, rAppend, rSetL, rExtend, rSlL, rSlQ, tCol, Int.toNat_natCast,  tSl, tNoPart, tPart, tTup, tLst, tNever, itu_g,
  List.map_cons, List.map_nil, List.length_cons, List.length_nil, List.cons_append, List.nil_append, List.replicate, Nat.reduceAdd, Nat.reduceSub, Nat.zero_add, Nat.sub_self,
  List.getElem?_cons_zero, List.getElem?_cons_succ, List.set_cons_zero, List.set_cons_succ, wipe, Option.some.injEq, exists_eq_left', exists_eq_left, V.bl.injEq, V.int.injEq, ref_inj, ty_inj, if_true, if_false, Bool.false_eq_true, Bool.true_eq_false, exists_const, exists_and_left, true_and, and_true, List.cons.injEq,
  isB_int, isB_bool, isB_tuple, isB_list, isT_at, iSq, iRg1, iRg2, iZ2, iZ3, iEn])
local macro_rules | `(tactic| walk_at "r1") => `(tactic| simp only [cxOf_K, tSeq, tIfS, tTest, tB, tCB, tCons, tNil, tC, tVar, tOp, tUn, tAndV, tOrV, tNotV, tAnd, tOr, tNot, tIf, tChain, tRet, tRetN, tAsg, gName, tDrop, tNext, tCallS, WE, rI0, rI, rU, L2.start, tYes, gTup, gCons, gNil, tPar, tPar3, tAug, ipI, tWidth, tCall, tMeth, tMake, tFld, tRows, tTable, sFld, rMulT, rSumT, gSub, tBM, rAppend, rSetL, rExtend, rSlL, rSlQ, tCol, Int.toNat_natCast,  tSl, tNoPart, tPart, tTup, tLst, tNever, itu_g,
  List.map_cons, List.map_nil, List.length_cons, List.length_nil, List.cons_append, List.nil_append, List.replicate, Nat.reduceAdd, Nat.reduceSub, Nat.zero_add, Nat.sub_self,
  List.getElem?_cons_zero, List.getElem?_cons_succ, List.set_cons_zero, List.set_cons_succ, wipe, Option.some.injEq, exists_eq_left', exists_eq_left, V.bl.injEq, V.int.injEq, ref_inj, ty_inj, if_true, if_false, Bool.false_eq_true, Bool.true_eq_false, exists_const, exists_and_left, true_and, and_true, List.cons.injEq,
  isB_int, isB_bool, isB_tuple, isB_list, isT_at, iSq, iRg1, iRg2, iZ2, iZ3, iEn])
local macro_rules | `(tactic| walk_at "lp") => `(tactic| first | rw [tFor_def] | rw [tLc_def] | rw [tWhile_def])
local macro_rules | `(tactic| walk_at "ex") => `(tactic| simp only [List.cons.injEq, and_true, true_and, and_assoc, exists_and_left, exists_eq_left', exists_eq_left, exists_eq_right, exists_const, V.int.injEq, V.bl.injEq, ref_inj, Bool.not_true, Bool.not_false, Bool.false_eq_true, if_true, if_false, Bool.true_eq_false])
section
variable {P : Program} {w : World} {K : PySem.W.Frag} {mg : Str → Option Value} {base : Heap} {a : Ad}
/-- is_row(r, n), at a row that is right -/
def spRow (CT : Addr) : Sp := fun vs H Q _ => ∃ (r : Addr) (row : List Int), vs = [.ref r, .int (row.length : Nat)] ∧ RowAt H r row ∧ row.length ≤ 4 ∧ (∀ z ∈ row, 0 ≤ z ∧ z ≤ 6) ∧ ∀ H', Same H H' → Q (.bl true) H'
abbrev N_is_row : List Str := ["thing", "many", "value"]
theorem ok_is_row (D : Def K mg "is_row" 17) (T : Txt K mg a) (M : TabM P w K mg base a.CT) (c_is_number : CalX P w K mg base 1 "is_number" (spNum a.CT)) : CalX P w K mg base 3 "is_row" (spRow a.CT) := by
  refine calx (N := N_is_row) (ps := ["thing", "many"]) D (by decide +kernel) (fun vs H Q E h => ?_) (fun _ _ _ _ _ _ us hl => match us, hl with | [_, _], _ => rfl) (fun f cdv A outer s H vs Q E hr nd tk pn h => ⟨_, (pss_cons (ps_if (PW.pt (pw_or (pt_not (pt_val (pe_callB (call_isB T.k) (by rfl) T.isinstance bi_isinstance (pa_cons (pv 0) (pa_cons (pe_bltn (v := .ty "tuple") (by rfl) T.tuple bi_tuple rfl) pa_nil))))) (pw_or1 (pt_cmpR op_ne (pe_callB (call_lenK (K := K) rfl M hr (by decide)) (by rfl) T.len bi_len (pa_cons (pv 0) pa_nil)) (pv 1) (nomark _)))))
      (pss_one (ps_ret pe_bl))
      pss_nil)
      (pss_one (ps_ret (pe_callB (cr_all rfl) (by rfl) T.all bi_all (pa_cons (pe_lc (own := [("value", 2)]) rfl nd (pi_sq (pv 0)) (blkOk_by (own := [("value", 2)]) (N := N_is_row) (sc := defScope (top 17)) (by decide +kernel)) (fun _ _ _ _ _ => (pg_name (i := 2) nd rfl (Or.inl rfl))) (fun _ _ _ _ _ => pts_nil) (fun _ _ _ _ _ => (pe_cx c_is_number hr (by decide) tk0 (pa_cons (pv 2) (pa_cons pe_int (pa_cons (C8.pe_gc (by rfl) T.mval) pa_nil)))))) pa_nil))))), ?_⟩)
  · obtain ⟨r, row, rfl, _⟩ := h
    rfl
  · obtain ⟨r, row, rfl, hr0, hl, hv, q⟩ := h
    clear tk pn nd hr
    walk_at "rd"
    simp only [spNum]
    walk_at "ex"
    refine ⟨.tup hr0, ?_⟩
    have hb : isB H (.ref r) "tuple" = true := by unfold isB; simp only [show H r = _ from hr0, beq_self_eq_true]
    rw [hb]
    simp only [Bool.not_true, Bool.false_eq_true, if_false]
    refine len_t hr0 ⟨rfl, _, rfl, ?_⟩
    simp only [List.length_map, decide_true, Bool.not_true, Bool.false_eq_true, if_false]
    refine ⟨false, _, sqA_t hr0, fun D hD => lcA (fun i => .bl (isNum ((row.map V.int).getD i .non) 0 6)) hD (by simp; omega) (fun H' e => sqA_t (e _ _ hr0)) (fun i v H1 H2 acc Nx hi e1 ha y k => ?_) (fun H' e h => ?_)⟩
    · simp only [yV] at y
      obtain ⟨rfl, rfl⟩ := y
      rw [List.length_map] at hi
      refine ⟨?_, k _ (Same.refl _)⟩
      rw [getI hi]
      exact .int _
    · refine all_l (bs := (List.range (row.map V.int).length).map fun i => isNum ((row.map V.int).getD i .non) 0 6) (by rw [h, mapmap]) ?_
      rw [all_getD (f := fun v => isNum v 0 6)]
      rw [show ((row.map V.int).all fun v => isNum v 0 6) = true from by
        rw [List.all_map, List.all_eq_true]
        intro z hz
        simp only [Function.comp_apply, isNum_int, Bool.and_eq_true, decide_eq_true_eq]
        exact hv z hz]
      exact q H' e
def spWof : Sp := fun vs H Q _ => ∃ (r : Addr) (row : List Int), vs = [.ref r] ∧ RowAt H r row ∧ row.length ≤ 4 ∧ Q (.int (row.length : Nat)) H
abbrev N_width_of : List Str := ["thing"]
theorem ok_width_of (D : Def K mg "width_of" 18) (T : Txt K mg a) (M : TabM P w K mg base a.CT) : CalX P w K mg base 3 "width_of" spWof := by
  refine calx (N := N_width_of) (ps := ["thing"]) D (by decide +kernel) (fun vs H Q E h => ?_) (fun _ _ _ _ _ _ us hl => match us, hl with | [_], _ => rfl) (fun f cdv A outer s H vs Q E hr nd tk pn h => ⟨_, (pss_one (ps_ret (pe_ifExp (PW.pt (pw_and (pt_val (pe_callB (call_isB T.k) (by rfl) T.isinstance bi_isinstance (pa_cons (pv 0) (pa_cons (pe_bltn (v := .ty "tuple") (by rfl) T.tuple bi_tuple rfl) pa_nil)))) (pw_and1 (pt_cmpR op_le (pe_callB (call_lenK (K := K) rfl M hr (by decide)) (by rfl) T.len bi_len (pa_cons (pv 0) pa_nil)) (C8.pe_gc (by rfl) T.mcols) (nomark _))))) (pe_callB (call_lenK (K := K) rfl M hr (by decide)) (by rfl) T.len bi_len (pa_cons (pv 0) pa_nil)) pe_int))), ?_⟩)
  · obtain ⟨r, row, rfl, _⟩ := h
    rfl
  · obtain ⟨r, row, rfl, hr0, hl, q⟩ := h
    clear tk pn nd hr
    walk_at "rd"
    refine ⟨.tup hr0, ?_⟩
    have hb : isB H (.ref r) "tuple" = true := by unfold isB; simp only [show H r = _ from hr0, beq_self_eq_true]
    rw [hb]
    simp only [if_true]
    refine len_t hr0 ⟨_, rfl, ?_⟩
    rw [List.length_map, if_pos (by simp; omega)]
    exact len_t hr0 (by rw [List.length_map]; exact q)
abbrev N_Table___init__ : List Str := ["self", "rows", "many", "index", "row"]
theorem ok_init (D : DefI K mg "Table" a.CT "Table.__init__" 19) (T : Txt K mg a) (M : TabM P w K mg base a.CT) (c_is_row : CalX P w K mg base 3 "is_row" (spRow a.CT)) (c_width_of : CalX P w K mg base 3 "width_of" spWof) : MkX P w K mg base 4 "Table" a.CT (spInit a.CT) := by
  obtain ⟨f, fd, F, mk, hm⟩ := D.ex
  refine ⟨f, fd, ["self", "rows"], mk, hm, ?_, F.binds fun _ _ _ _ _ _ us hl => match us, hl with | [_, _], _ => rfl⟩
  refine fnx (N := N_Table___init__) F (by decide +kernel) (fun vs H Q E h => ?_) (fun cdv A outer s H vs Q E hr nd tk pn h => ⟨_, (pss_cons (ps_if (PW.pt (pw_or (pt_not (pt_val (pe_callB (call_isLT T.k) (by rfl) T.isinstance bi_isinstance (pa_cons (pv 1) (pa_cons (pe_tup (pa_cons (pe_bltn (v := .ty "list") (by rfl) T.list bi_list rfl) (pa_cons (pe_bltn (v := .ty "tuple") (by rfl) T.tuple bi_tuple rfl) pa_nil))) pa_nil))))) (pw_or1 (pt_not (pt_chain op_le op_le pe_int (pe_callB (call_lenK (K := K) rfl M hr (by decide)) (by rfl) T.len bi_len (pa_cons (pv 1) pa_nil)) (C8.pe_gc (by rfl) T.mrows))))))
      (pss_one ps_never)
      pss_nil)
      (pss_cons (ps_set (i := 2) nd rfl (Or.inl rfl) (pe_cx c_width_of hr (by decide) tk (pa_cons (pe_ix (ixK (K := K) rfl) (pv 1) pe_int (fun _ _ => rfl)) pa_nil)))
      (pss_cons (ps_for pn rfl (pi_en (by rfl) T.enumerate (pa_cons (pv 1) pa_nil)) (pg_tupK (K := K) (n := 2) rfl rfl (pgs_cons (pg_name (i := 3) nd rfl (Or.inl rfl)) (pgs_cons (pg_name (i := 4) nd rfl (Or.inl rfl)) pgs_nil)))
      (pss_one (ps_if (PW.pt (pw_or (pt_cmpR op_eq (pv 2) pe_int (nomark _)) (pw_or1 (pt_not (pt_val (pe_cx c_is_row hr (by decide) tk (pa_cons (pv 4) (pa_cons (pv 2) pa_nil))))))))
      (pss_one ps_never)
      pss_nil)))
      (pss_one (ps_fld (pv 0) (pe_callTy call_tuple_of (by rfl) T.tuple bi_tuple (pa_cons (pv 1) pa_nil)) rfl))))), ?_⟩)
  · obtain ⟨_, _, _, _, _, _, rfl, _⟩ := h
    rfl
  · obtain ⟨x, dx, l, ts, R, w, rfl, hx, hl, hp, S, q⟩ := h
    clear tk pn nd hr
    walk_at "rd"
    simp only [spRow, spWof]
    walk_at "ex"
    refine ⟨by decide, fun p hp0 => ⟨_, p, rfl, upd_same, .lst (xs := ts.map V.ref) ?_, ?_⟩⟩
    · rw [upd_ne (ne_of_none hl hp0)]; exact hl
    have e0 : Same H (upd H p (.tup [.ty "list", .ty "tuple"])) := same_new (Same.refl H) hp0
    generalize upd H p (.tup [.ty "list", .ty "tuple"]) = H0 at e0 ⊢
    have hl0 := e0 _ _ hl
    have hx0 := e0 _ _ hx
    have hp0 : Paired (RowAt H0) ts R := Paired.imp2 hp fun _ _ h => e0 _ _ h
    have hlen : ts.length = R.length := hp.length
    have S1 := S.pos
    have S2 := S.le
    have hb : isB H0 (.ref l) "list" = true := by unfold isB; simp only [hl0, beq_self_eq_true]
    refine ⟨_, rfl, ?_⟩
    rw [hb]
    simp only [Bool.true_or, Bool.not_true, Bool.false_eq_true, if_false]
    refine len_l hl0 ⟨_, rfl, ?_⟩
    rw [if_pos (by simp; omega)]
    refine ⟨_, rfl, ?_⟩
    rw [if_neg (by simp; omega)]
    obtain ⟨r0, _, g2, g3⟩ := rowAt hp0 (i := 0) (by omega)
    have hw0 : (R.getD 0 []).length = w := (S.row _ (getD_mem (by omega))).1
    refine ix_l hl0 (atI_nat (k := 0) g2) ⟨r0, rfl, _, g3, by rw [hw0]; exact S.w4, true, _, sqA_l hl0, ?_⟩
    refine forB (fun i σ H' => Same H0 H' ∧ ∃ v3 v4, σ = [some (.ref x), some (.ref l), some (.int (w : Nat)), v3, v4]) ⟨Same.refl H0, none, none, by rw [hw0]⟩ (fun i σ H' _ h => sqA_l (h.1 _ _ hl0)) ?_ ?_
    · rintro i v σ H1 H2 Nx hi ⟨e1, v3, v4, rfl⟩ y nx
      simp only [yT] at y
      obtain ⟨T0, rfl, hT, rfl⟩ := y
      rw [List.length_map, hlen] at hi
      have e2 := same_up (o := .tup [.int (i : Nat), (ts.map V.ref).getD i .non]) e1 hT
      refine un2 upd_same ?_
      obtain ⟨r, h4, _, h5⟩ := rowAt hp0 hi
      rw [h4] at e2 ⊢
      generalize upd H1 T0 _ = H3 at e2 ⊢
      obtain ⟨s1, s2⟩ := S.row _ (getD_mem (d := []) hi)
      have hw1 := S.w1
      walk_at "rd"
      have hz : ¬ (w : Int) = 0 := by omega
      refine ⟨rfl, _, rfl, ?_⟩
      rw [dec_int, if_neg (by simpa using hz)]
      exact ⟨_, by rw [s1], e2 _ _ h5, by rw [s1]; exact S.w4, s2, fun H' e => nx _ _ ⟨e2.trans e, _, _, rfl⟩⟩
    · rintro σ H1 ⟨e1, v3, v4, rfl⟩
      walk_at "rd"
      refine ⟨_, .inl ⟨SqL.of (e1 _ _ hl0), fun l2 hl2 => ⟨a.CT, dx, [], ?_, T.k.cl, T.nR, by decide, ?_⟩⟩⟩
      · rw [upd_ne (ne_of_none (e1 _ _ hx0) hl2)]; exact e1 _ _ hx0
      · refine q _ l2 (fun b o hb hne => ?_) upd_same ?_
        · rw [upd_ne hne]
          exact same_up (e0.trans e1) hl2 b o hb
        · rw [upd_ne (ne_of_none (e1 _ _ hx0) hl2).symm, upd_same]
abbrev N_Table___len__ : List Str := ["self"]
theorem ok_len (D : DefM K a.CT "__len__" "Table.__len__" 19 2) (T : Txt K mg a) : ∃ f fd, PySem.W.findIn K (.ref a.CT) "__len__" = some (some (.ref f)) ∧ PySem.W.isFn K (.ref f) = true ∧ FnOk P w K mg base (L2.CX P w) 1 f fd ["self"] (spLen a.CT) ∧ Binds K fd ["self"] [] := by
  obtain ⟨f, fd, F, m⟩ := D.ex
  refine ⟨f, fd, m.at_, m.fn, ?_, F.binds fun _ _ _ _ _ _ us hl => match us, hl with | [_], _ => rfl⟩
  refine fnx (N := N_Table___len__) F (by decide +kernel) (fun vs H Q E h => ?_) (fun cdv A outer s H vs Q E hr nd tk pn h => ⟨_, (pss_one (ps_ret (pe_callB call_len_seq (by rfl) T.len bi_len (pa_cons (pe_rows T.k.cl T.nR (pv 0)) pa_nil)))), ?_⟩)
  · obtain ⟨v, R, rfl, _⟩ := h
    rfl
  · obtain ⟨v, R, rfl, t, q⟩ := h
    clear tk pn nd hr
    walk_at "rd"
    refine ⟨R, t, fun r ts h1 h2 => ⟨_, .inr (SqT.of h1), ?_⟩⟩
    rw [List.length_map, h2.length]
    exact q
abbrev N_Table_width : List Str := ["self"]
theorem ok_wid {p g : Addr} {fd : FuncData} (F : L2.Fun K "width" "Table.width" (inClass (top 19) 5) g fd) (T : Txt K mg a) : FnOk P w K mg base (L2.CX P w) 1 g fd ["self"] (spWidth a.CT) ∧ Binds K fd ["self"] [] := by
  refine ⟨?_, F.binds fun _ _ _ _ _ _ us hl => match us, hl with | [_], _ => rfl⟩
  refine fnx (N := N_Table_width) F (by decide +kernel) (fun vs H Q E h => ?_) (fun cdv A outer s H vs Q E hr nd tk pn h => ⟨_, (pss_one (ps_ret (pe_callB call_len_seq (by rfl) T.len bi_len (pa_cons (pe_ix (ixK (K := K) rfl) (pe_rows T.k.cl T.nR (pv 0)) pe_int (fun _ _ => rfl)) pa_nil)))), ?_⟩)
  · obtain ⟨v, row, R, rfl, _⟩ := h
    rfl
  · obtain ⟨v, row, R, rfl, t, q⟩ := h
    clear tk pn nd hr
    walk_at "rd"
    refine ⟨row :: R, t, fun r ts h1 h2 => ?_⟩
    obtain ⟨r0, _, g2, g3⟩ := rowAt h2 (i := 0) (by simp)
    refine ix_t h1 (atI_nat (k := 0) g2) ⟨r0, rfl, _, .inr (SqT.of g3), ?_⟩
    rw [List.length_map]
    exact q
abbrev N_Table_column : List Str := ["self", "place", "row"]
theorem ok_column (D : DefM K a.CT "column" "Table.column" 19 6) (T : Txt K mg a) (c_check_column : CalX P w K mg base 3 "check_column" (spCC a)) : MetX P w K mg base 4 a.CT "column" (spCol a.CT) := by
  obtain ⟨f, fd, F, m⟩ := D.ex
  refine ⟨f, fd, ["self", "place"], m, ?_, F.binds fun _ _ _ _ _ _ us hl => match us, hl with | [_, _], _ => rfl⟩
  refine fnx (N := N_Table_column) F (by decide +kernel) (fun vs H Q E h => ?_) (fun cdv A outer s H vs Q E hr nd tk pn h => ⟨_, (pss_cons (ps_expr (pe_cx c_check_column hr (by decide) tk (pa_cons (pv 0) (pa_cons (pv 1) pa_nil))))
      (pss_one (ps_ret (pe_lc (own := [("row", 2)]) rfl nd (pi_sq (pe_rows T.k.cl T.nR (pv 0))) (blkOk_by (own := [("row", 2)]) (N := N_Table_column) (sc := defScope (inClass (top 19) 6)) (by decide +kernel)) (fun _ _ _ _ _ => (pg_name (i := 2) nd rfl (Or.inl rfl))) (fun _ _ _ _ _ => pts_nil) (fun _ _ _ _ _ => (pe_ix (ixK (K := K) rfl) (pv 2) (pv 1) (fun _ _ => rfl))))))), ?_⟩)
  · obtain ⟨v, R, w, i, rfl, _⟩ := h
    rfl
  · obtain ⟨v, R, w, i, rfl, t, S, hi, q⟩ := h
    clear tk pn nd hr
    walk_at "rd"
    simp only [spCC]
    walk_at "ex"
    obtain ⟨row, R', rfl⟩ : ∃ row R', R = row :: R' := by
      cases R with
      | nil => exact absurd S.pos (by simp)
      | cons r R' => exact ⟨r, R', rfl⟩
    have hw := (S.row row (List.mem_cons_self ..)).1
    have ok : isNum (.int (i : Nat)) 0 (row.length - 1) = true := by
      rw [isNum_int, Bool.and_eq_true, decide_eq_true_eq, decide_eq_true_eq]
      omega
    refine ⟨row, R', t, .int _, fun _ => ⟨_, t, fun r ts h1 h2 => ⟨false, _, sqA_t h1, fun L hL => ?_⟩⟩, fun z => by rw [ok] at z; exact nomatch z⟩
    have hlen := h2.length
    have Sle := S.le
    refine lcA (fun j => .int (((row :: R').getD j []).getD i 0)) hL (by rw [List.length_map, hlen]; omega) (fun H' e => sqA_t (e _ _ h1)) (fun j v H1 H2 acc Nx hj e1 ha y k => ?_) (fun H' e h => ?_)
    · simp only [yV] at y
      obtain ⟨rfl, rfl⟩ := y
      rw [List.length_map, hlen] at hj
      obtain ⟨r', g1, _, g3⟩ := rowAt h2 hj
      rw [g1]
      have g4 := e1 _ _ g3
      have hrow := (S.row _ (getD_mem (d := []) hj)).1
      exact ix_t g4 (atI_ints (by rw [hrow]; exact hi)) (k _ (Same.refl _))
    · refine q H' L e hL ?_
      rw [h, List.length_map, hlen]
      unfold col
      rw [List.map_map]
      refine congrArg (fun l => some (HO.lst l)) ?_
      have z := congrArg (List.map fun r : List Int => V.int (r.getD i 0)) (range_getD (row :: R') [])
      rw [List.map_map] at z
      exact z
/-- apart(one, other, prices): two rows and prices -/
def spApart : Sp := fun vs H Q _ => ∃ (r1 r2 : Addr) (xs ys : List Int) (p : V) (ps : List Int), vs = [.ref r1, .ref r2, p] ∧ RowAt H r1 xs ∧ RowAt H r2 ys ∧ PrAt H p ps ∧ xs.length ≤ 100 ∧
  ∀ z H', (xs = ys → z = 0) → Same H H' → Q (.int z) H'
abbrev N_apart : List Str := ["one", "other", "prices", "mine", "theirs", "price"]
theorem ok_apart (D : Def K mg "apart" 23) (T : Txt K mg a) : CalX P w K mg base 1 "apart" spApart := by
  refine calx (N := N_apart) (ps := ["one", "other", "prices"]) D (by decide +kernel) (fun vs H Q E h => ?_) (fun _ _ _ _ _ _ us hl => match us, hl with | [_, _, _], _ => rfl) (fun f cdv A outer s H vs Q E hr nd tk pn h => ⟨_, (pss_one (ps_ret (pe_callB (cr_sum rfl) (by rfl) T.sum bi_sum (pa_cons (pe_lc (own := [("mine", 3), ("theirs", 4), ("price", 5)]) rfl nd (pi_z3 (by rfl) T.zip (pa_cons (pv 0) (pa_cons (pv 1) (pa_cons (pv 2) pa_nil)))) (blkOk_by (own := [("mine", 3), ("theirs", 4), ("price", 5)]) (N := N_apart) (sc := defScope (top 23)) (by decide +kernel)) (fun _ _ _ _ _ => (pg_tupK (K := K) (n := 3) rfl rfl (pgs_cons (pg_name (i := 3) nd rfl (Or.inl rfl)) (pgs_cons (pg_name (i := 4) nd rfl (Or.inl rfl)) (pgs_cons (pg_name (i := 5) nd rfl (Or.inl rfl)) pgs_nil))))) (fun _ _ _ _ _ => (pts_one (pt_cmpR op_ne (pv 3) (pv 4) (nomark _)))) (fun _ _ _ _ _ => (pv 5))) pa_nil)))), ?_⟩)
  · obtain ⟨r1, r2, xs, ys, p, ps, rfl, _⟩ := h
    rfl
  · obtain ⟨r1, r2, xs, ys, p, ps, rfl, h1, h2, ⟨pa, rfl, h3, hps⟩, hl, q⟩ := h
    clear tk pn nd hr
    walk_at "rd"
    refine ⟨_, _, _, ⟨rfl, rfl, rfl⟩, false, false, false, _, sqA_t h1, _, sqA_t h2, _, sqA_t h3, fun D hD => ?_⟩
    refine lcV (fun i => !decide (xs.getD i 0 = ys.getD i 0)) (fun i => .int (ps.getD i 0)) hD (by simp; omega) (fun H' e => ⟨sqA_t (e _ _ h1), sqA_t (e _ _ h2), sqA_t (e _ _ h3)⟩) (fun j v H1 H2 acc Nx hj e1 ha y k1 k2 => ?_) (fun H' e h => ?_)
    · simp only [yT] at y
      obtain ⟨T0, rfl, hT, rfl⟩ := y
      simp only [List.length_map] at hj
      refine un3 upd_same ?_
      rw [getI (by omega), getI (by omega), getI (by omega)]
      refine ⟨rfl, _, rfl, ?_⟩
      rw [dec_int]
      have e2 := fun o => same_up (o := o) (Same.refl H1) hT
      split
      · next hb => exact k1 (by simpa using hb) _ (e2 _)
      · next hb => exact k2 (by simpa using hb) _ (e2 _)
    · refine sum_l (ns := (kept (fun i => !decide (xs.getD i 0 = ys.getD i 0)) _).map fun i => ps.getD i 0) (by rw [h, mapmapI]) (q _ H' (fun exy => ?_) e)
      subst exy
      have hk : kept (fun i => !decide (xs.getD i 0 = xs.getD i 0)) (min (min (xs.map V.int).length (xs.map V.int).length) (ps.map V.int).length) = [] := by
        unfold kept
        simp
      rw [hk]; rfl
/-- ones(table) -/
def spOnes (CT : Addr) : Sp := fun vs H Q _ => ∃ v R w, vs = [v] ∧ Tb CT H v R ∧ Shp R w ∧ ∀ r H', Same H H' → PrAt H' r (List.replicate w 1) → Q r H'
abbrev N_ones : List Str := ["table"]
theorem ok_ones (D : Def K mg "ones" 24) (T : Txt K mg a) (M : TabM P w K mg base a.CT) : CalX P w K mg base 3 "ones" (spOnes a.CT) := by
  refine calx (N := N_ones) (ps := ["table"]) D (by decide +kernel) (fun vs H Q E h => ?_) (fun _ _ _ _ _ _ us hl => match us, hl with | [_], _ => rfl) (fun f cdv A outer s H vs Q E hr nd tk pn h => ⟨_, (pss_one (ps_ret (pe_op op_mulT (pe_tup (pa_cons pe_int pa_nil)) (pe_width M hr (by decide) (pv 0))))), ?_⟩)
  · obtain ⟨_, _, _, rfl, _⟩ := h
    rfl
  · obtain ⟨v, R, w, rfl, t, S, q⟩ := h
    clear tk pn nd hr
    walk_at "rd"
    obtain ⟨row, R', rfl⟩ : ∃ row R', R = row :: R' := by
      cases R with
      | nil => exact absurd S.pos (by simp)
      | cons r R' => exact ⟨r, R', rfl⟩
    have hw := (S.row row (List.mem_cons_self ..)).1
    have w1 := S.w1
    have w4 := S.w4
    refine ⟨by decide, fun p hp => ⟨row, R', t.same (same_new (Same.refl H) hp), _, upd_same, by omega, by omega, fun r H' e h => q _ H' ((same_new (Same.refl H) hp).trans e) ⟨r, rfl, ?_, fun x hx => ?_⟩⟩⟩
    · rw [h, List.map_replicate, hw]
    · have := List.eq_of_mem_replicate hx
      omega
end
end G


set_option Elab.async false
set_option linter.all false
set_option maxRecDepth 100000
set_option maxHeartbeats 4000000
set_option pp.deepTerms true
set_option pp.maxSteps 100000
set_option format.width 230
namespace G
open PySem PySem.Spec PyProof.Rows L2
local macro_rules | `(tactic| walk_at "rd") => `(tactic| simp only [cxOf_K, tSeq, tIfS, tTest, tB, tCB, tCons, tNil, tC, tVar, tOp, tUn, tAndV, tOrV, tNotV, tAnd, tOr, tNot, tIf, tChain, tRet, tRetN, tAsg, gName, tDrop, tNext, tCallS, WE, rI0, rI, rU, L2.start, tYes, tLc, tFor, gTup, gCons, gNil, tPar, tPar3, tAug, ipI, tWidth, tCall, tMeth, tMake, tFld, tRows, tTable, sFld, rMulT, rSumT, gSub, tBM, rAppend, rSetL, rExtend, rSlL, rSlQ, tCol, Int.toNat_natCast,  tSl, tNoPart, tPart, tTup, tLst, tNever, itu_g,
  List.map_cons, List.map_nil, List.length_cons, List.length_nil, List.cons_append, List.nil_append, List.replicate, Nat.reduceAdd, Nat.reduceSub, Nat.zero_add, Nat.sub_self,
  List.getElem?_cons_zero, List.getElem?_cons_succ, List.set_cons_zero, List.set_cons_succ, wipe, Option.some.injEq, exists_eq_left', exists_eq_left, V.bl.injEq, V.int.injEq, ref_inj, ty_inj, if_true, if_false, Bool.false_eq_true, Bool.true_eq_false, exists_const, exists_and_left, true_and, and_true, List.cons.injEq,
  isB_int, isB_bool, isB_tuple, isB_list, isT_at, iSq, iRg1, iRg2, iZ2, iZ3, iEn])
local macro_rules | `(tactic| walk_at "r1") => `(tactic| simp only [cxOf_K, tSeq, tIfS, tTest, tB, tCB, tCons, tNil, tC, tVar, tOp, tUn, tAndV, tOrV, tNotV, tAnd, tOr, tNot, tIf, tChain, tRet, tRetN, tAsg, gName, tDrop, tNext, tCallS, WE, rI0, rI, rU, L2.start, tYes, gTup, gCons, gNil, tPar, tPar3, tAug, ipI, tWidth, tCall, tMeth, tMake, tFld, tRows, tTable, sFld, rMulT, rSumT, gSub, tBM, rAppend, rSetL, rExtend, rSlL, rSlQ, tCol, Int.toNat_natCast,  tSl, tNoPart, tPart, tTup, tLst, tNever, itu_g,
  List.map_cons, List.map_nil, List.length_cons, List.length_nil, List.cons_append, List.nil_append, List.replicate, Nat.reduceAdd, Nat.reduceSub, Nat.zero_add, Nat.sub_self,
  List.getElem?_cons_zero, List.getElem?_cons_succ, List.set_cons_zero, List.set_cons_succ, wipe, Option.some.injEq, exists_eq_left', exists_eq_left, V.bl.injEq, V.int.injEq, ref_inj, ty_inj, if_true, if_false, Bool.false_eq_true, Bool.true_eq_false, exists_const, exists_and_left, true_and, and_true, List.cons.injEq,
  isB_int, isB_bool, isB_tuple, isB_list, isT_at, iSq, iRg1, iRg2, iZ2, iZ3, iEn])
local macro_rules | `(tactic| walk_at "lp") => `(tactic| first | rw [tFor_def] | rw [tLc_def] | rw [tWhile_def])
local macro_rules | `(tactic| walk_at "ex") => `(tactic| simp only [List.cons.injEq, and_true, true_and, and_assoc, exists_and_left, exists_eq_left', exists_eq_left, exists_eq_right, exists_const, V.int.injEq, V.bl.injEq, ref_inj, Bool.not_true, Bool.not_false, Bool.false_eq_true, if_true, if_false, Bool.true_eq_false])
section
variable {P : Program} {w : World} {K : PySem.W.Frag} {mg : Str → Option Value} {base : Heap} {a : Ad}
/-! ### runs -/
def pr2 (p : Int × Int) : List Int := [p.1, p.2]
/-- one value more -/
def runStep (acc : List (Int × Int)) (v : Int) : List (Int × Int) :=
  match acc.getLast? with
  | some p => if p.1 = v then acc.dropLast ++ [(v, p.2 + 1)] else acc ++ [(v, 1)]
  | none => [(v, 1)]
def runsOf (xs : List Int) : List (Int × Int) := xs.foldl runStep []
theorem runStep_len (acc : List (Int × Int)) (v : Int) : (runStep acc v).length ≤ acc.length + 1 := by
  unfold runStep
  split
  · split <;> simp
  · simp
theorem runsOf_len' : ∀ (xs : List Int) (acc : List (Int × Int)), (xs.foldl runStep acc).length ≤ acc.length + xs.length
  | [], acc => Nat.le_refl _
  | x :: xs, acc => by
    have h1 := runsOf_len' xs (runStep acc x)
    have h2 := runStep_len acc x
    rw [List.foldl_cons, List.length_cons]
    omega
theorem runsOf_len (xs : List Int) : (runsOf xs).length ≤ xs.length := by
  have := runsOf_len' xs []
  simpa [runsOf] using this
theorem paired_flip {α β : Type} {F : α → β → Prop} : ∀ {l : List α} {m : List β}, Paired F l m → Paired (fun b a => F a b) m l
  | _, _, .nil => .nil
  | _, _, .cons r t => .cons r (paired_flip t)
/-- runs_in(values) -/
def spRuns : Sp := fun vs H Q _ => ∃ (l : Addr) (xs : List Int), vs = [.ref l] ∧ H l = some (.lst (xs.map V.int)) ∧ xs.length ≤ 1000 ∧
  ∀ r H' ts, Same H H' → H r = none → H' r = some (.lst (ts.map V.ref)) → Paired (RowAt H') ts ((runsOf xs).map pr2) → Q (.ref r) H'
abbrev N_runs_in : List Str := ["values", "found", "value"]
theorem ok_runs_in (D : Def K mg "runs_in" 40) (T : Txt K mg a) : CalX P w K mg base 1 "runs_in" spRuns := by
  refine calx (N := N_runs_in) (ps := ["values"]) D (by decide +kernel) (fun vs H Q E h => ?_) (fun _ _ _ _ _ _ us hl => match us, hl with | [_], _ => rfl) (fun f cdv A outer s H vs Q E hr nd tk pn h => ⟨_, (pss_cons (ps_set (i := 1) nd rfl (Or.inl rfl) (pe_lst pa_nil))
      (pss_cons (ps_for pn rfl (pi_sq (pv 0)) (pg_name (i := 2) nd rfl (Or.inl rfl))
      (pss_one (ps_if (PW.pt (pw_and (pt_cmpR (op_neD hr.units) (pv 1) (pe_lst pa_nil) (nomark _)) (pw_and1 (pt_cmpR op_eq (pe_ix (ixK (K := K) rfl) (pe_ix (ixK (K := K) rfl) (pv 1) (pe_un un_neg pe_int) (fun _ _ => rfl)) pe_int (fun _ _ => rfl)) (pv 2) (nomark _)))))
      (pss_one (ps_asg (pe_tup (pa_cons (pv 2) (pa_cons (pe_op op_add (pe_ix (ixK (K := K) rfl) (pe_ix (ixK (K := K) rfl) (pv 1) (pe_un un_neg pe_int) (fun _ _ => rfl)) pe_int (fun _ _ => rfl)) pe_int) pa_nil))) (pg_sub (pv 1) (pe_un un_neg pe_int) set_list)))
      (pss_one (ps_expr (pe_bm PySem.F.plainAttrs_list PySem.F.slot_list_append PySem.F.type_list_append mt_append (pv 1) (pa_cons (pe_tup (pa_cons (pv 2) (pa_cons pe_int pa_nil))) pa_nil)))))))
      (pss_one (ps_ret (pv 1))))), ?_⟩)
  · obtain ⟨l, xs, rfl, _⟩ := h
    rfl
  · obtain ⟨l, xs, rfl, hl, hn, q⟩ := h
    clear tk pn nd hr
    walk_at "rd"
    refine ⟨by decide, fun L hL => ⟨true, _, sqA_l (upd_lst hl hL), ?_⟩⟩
    refine forB (fun i σ H' => Same H H' ∧ ∃ v2 ts, σ = [some (.ref l), some (.ref L), v2] ∧ H' L = some (.lst (ts.map V.ref)) ∧ Paired (RowAt H') ts ((runsOf (xs.take i)).map pr2) ∧ (runsOf (xs.take i)).length ≤ i)
      ⟨same_new (Same.refl H) hL, none, [], rfl, upd_same, .nil, Nat.le_refl _⟩ (fun i σ H' _ h => sqA_l (h.1 _ _ hl)) ?_ ?_
    · rintro i v σ H1 H2 Nx hi ⟨e1, v2, ts, rfl, hf, hp, hlen⟩ y nx
      simp only [yV] at y
      obtain ⟨rfl, rfl⟩ := y
      rw [List.length_map] at hi
      rw [getI hi]
      have hstep : runsOf (xs.take (i + 1)) = runStep (runsOf (xs.take i)) (xs.getD i 0) := by
        unfold runsOf
        rw [List.take_succ, List.getElem?_eq_getElem hi, Option.toList_some, List.foldl_append, List.getD_eq_getElem?_getD, List.getElem?_eq_getElem hi]
        rfl
      rw [hstep] at nx
      generalize xs.getD i 0 = z at nx ⊢
      generalize runsOf (xs.take i) = rs at hp hlen nx
      walk_at "rd"
      refine ⟨by decide, fun p hp0 => ?_⟩
      have e2 : Same H2 (upd H2 p (.lst [])) := same_new (Same.refl H2) hp0
      have hnil : upd H2 p (.lst []) p = some (.lst []) := upd_same
      generalize upd H2 p (.lst []) = H3 at e2 hnil ⊢
      have hf3 := e2 _ _ hf
      have hp3 := rows_same hp e2
      refine ne_nilL hf3 (dp_rows hp3) (sh_rows _) hnil ⟨_, rfl, ?_⟩
      have hL0 : H L = none := hL
      have e3 := e1.trans e2
      have app : runStep rs z = rs ++ [(z, 1)] → tyV K "list" (.ref L) H3 ∧ 2 ≤ sizeLine ∧ ∀ (p : Addr), H3 p = none → ∃ x, upd H3 p (HO.tup [V.int z, V.int 1]) L = some (HO.lst x) ∧
          x.length < sizeLine ∧ Nx [some (V.ref l), some (V.ref L), some (V.int z)] (upd (upd H3 p (HO.tup [V.int z, V.int 1])) L (HO.lst (x ++ [V.ref p]))) := by
        intro hst
        refine ⟨tyL hf3, by decide, fun p hp0 => ⟨_, upd_lst hf3 hp0, small (by have := hp3.length; simp at this ⊢; omega), ?_⟩⟩
        rw [hst] at nx
        refine nx _ _ ⟨same_new (same_up e3 hp0) hL0, _, ts ++ [p], rfl, by rw [upd_same, List.map_append]; rfl, ?_, by simp; omega⟩
        rw [List.map_append]
        exact rows_keep (paired_snoc (rows_same hp3 (same_up (Same.refl _) hp0)) (show RowAt _ p [z, 1] from upd_same)) (upd_lst hf3 hp0)
      rcases List.eq_nil_or_concat rs with rfl | ⟨rs', ⟨u, c⟩, rfl⟩
      · cases hp3
        exact app rfl
      · rw [List.concat_eq_append, List.map_append] at hp3
        obtain ⟨ts', t, rfl, hp4, ht⟩ := paired_snoc_inv hp3
        have hne : (List.map V.ref (ts' ++ [t])).isEmpty = false := by simp
        rw [hne]
        simp only [Bool.not_false, if_true]
        rw [List.map_append] at hf3
        refine ix_l hf3 atI_last (ix_t ht (atI_nat (k := 0) rfl) ⟨rfl, _, rfl, ?_⟩)
        rw [dec_int]
        by_cases huz : u = z
        · subst huz
          simp only [beq_self_eq_true, if_true]
          refine ix_l hf3 atI_last (ix_t ht (atI_nat (k := 1) rfl) ⟨_, rfl, by decide, fun p hp0 => ⟨_, upd_lst hf3 hp0, _, ixN_neg1 (by simp), ?_⟩⟩)
          have hst : runStep (rs' ++ [(u, c)]) u = rs' ++ [(u, c + 1)] := by unfold runStep; simp
          rw [List.concat_eq_append, hst] at nx
          refine nx _ _ ⟨same_new (same_up e3 hp0) hL0, _, ts' ++ [p], rfl, ?_, ?_, by simp at hlen ⊢; omega⟩
          · rw [upd_same]
            simp
          · rw [List.map_append]
            exact rows_keep (paired_snoc (rows_same hp4 (same_up (Same.refl _) hp0)) (show RowAt _ p [u, c + 1] from upd_same)) (upd_lst hf3 hp0)
        · have hb : ((u, c).fst == z) = false := beq_eq_false_iff_ne.mpr huz
          rw [hb]
          simp only [Bool.false_eq_true, if_false]
          exact app (by unfold runStep; simp [huz])
    · rintro σ H1 ⟨e1, v2, ts, rfl, hf, hp, hlen⟩
      walk_at "rd"
      rw [List.length_map, List.take_length] at hp
      exact q L H1 ts e1 hL hf hp
/-- changes(table): a new list of ints, one fewer than the rows -/
def spChg (a : Ad) : Sp := fun vs H Q E => ∃ v, vs = [v] ∧ Tg a.CT H v ∧ (isT a.CT H v = false → E (.ref a.cBT) none H) ∧ (isT a.CT H v = true → ∃ R w, Tb a.CT H v R ∧ Shp R w ∧
  ∀ r H' (ns : List Int), Same H H' → H r = none → H' r = some (.lst (ns.map V.int)) → ns.length + 1 = R.length → Q (.ref r) H')
abbrev N_changes : List Str := ["table", "one", "other"]
theorem ok_changes (D : Def K mg "changes" 41) (T : Txt K mg a) (c_check_table : CalX P w K mg base 1 "check_table" (spCT a)) (c_apart : CalX P w K mg base 1 "apart" spApart) (c_ones : CalX P w K mg base 3 "ones" (spOnes a.CT)) : CalX P w K mg base 4 "changes" (spChg a) := by
  refine calx (N := N_changes) (ps := ["table"]) D (by decide +kernel) (fun vs H Q E h => ?_) (fun _ _ _ _ _ _ us hl => match us, hl with | [_], _ => rfl) (fun f cdv A outer s H vs Q E hr nd tk pn h => ⟨_, (pss_cons (ps_expr (pe_cx c_check_table hr (by decide) tk (pa_cons (pv 0) pa_nil)))
      (pss_one (ps_ret (pe_lc (own := [("one", 1), ("other", 2)]) rfl nd (pi_z2 (by rfl) T.zip (pa_cons (pe_rows T.k.cl T.nR (pv 0)) (pa_cons (pe_slice sl_tupQ (pe_rows T.k.cl T.nR (pv 0)) (po_some pe_int) po_none) pa_nil))) (blkOk_by (own := [("one", 1), ("other", 2)]) (N := N_changes) (sc := defScope (top 41)) (by decide +kernel)) (fun _ _ _ _ _ => (pg_tupK (K := K) (n := 2) rfl rfl (pgs_cons (pg_name (i := 1) nd rfl (Or.inl rfl)) (pgs_cons (pg_name (i := 2) nd rfl (Or.inl rfl)) pgs_nil)))) (fun _ _ _ _ _ => pts_nil) (fun _ _ _ _ _ => (pe_cx c_apart hr (by decide) tk0 (pa_cons (pv 1) (pa_cons (pv 2) (pa_cons (pe_cx c_ones hr (by decide) tk0 (pa_cons (pv 0) pa_nil)) pa_nil))))))))), ?_⟩)
  · obtain ⟨l, rfl, _⟩ := h
    rfl
  · obtain ⟨v, rfl, g, no, yes⟩ := h
    clear tk pn nd hr
    walk_at "rd"
    simp only [spCT, spApart, spOnes]
    walk_at "ex"
    refine ⟨g, fun hT => ?_, no⟩
    obtain ⟨R, wd, t, S, q⟩ := yes hT
    have Sle := S.le
    have Spos := S.pos
    refine ⟨R, t, fun r ts h1 h2 => ⟨R, t, fun r2 ts2 h3 h4 => ⟨_, h3, fun p H1 e1 hp => ⟨false, false, _, sqA_t (e1 _ _ h1), _, sqA_t hp, fun L hL => ?_⟩⟩⟩⟩
    have h5 := e1 _ _ h1
    have h6 := rows_same h2 e1
    have h7 := rows_same h4 e1
    have l1 := h2.length
    have l2 := h4.length
    have hc : cutV (ts2.map V.ref) (some 1) none = (ts2.map V.ref).drop 1 := cutV_from (k := 1)
    rw [hc] at hp ⊢
    refine lcF (fun _ => true) (fun _ v _ => ∃ z, v = .int z) hL (by simp; omega) (fun _ _ _ _ _ _ h => h) (fun _ _ _ _ h _ => h) (fun H' e => ⟨sqA_t (e _ _ h5), sqA_t (e _ _ hp)⟩) (fun j v H2 H3 acc Nx hj e2 ha y k1 _ => ?_) (fun H' acc e h hp => ?_)
    · simp only [yT] at y
      obtain ⟨T0, rfl, hT0, rfl⟩ := y
      simp only [List.length_map, List.length_drop] at hj
      refine un2 upd_same ?_
      obtain ⟨r3, g1, _, g3⟩ := rowAt h6 (i := j) (by omega)
      obtain ⟨r4, g4, _, g6⟩ := rowAt h7 (i := 1 + j) (by omega)
      rw [getD_drop, g1, g4]
      have e3 := fun o => same_up (o := o) e2 hT0
      have e3' := fun o => same_up (o := o) (Same.refl H2) hT0
      refine ⟨R, t.same (e1.trans (e3 _)), wd, S, fun p' H5 e5 P5 => ⟨r3, rfl, r4, rfl, _, e5 _ _ (e3 _ _ _ g3), _, e5 _ _ (e3 _ _ _ g6), _, P5, ?_, fun z H6 _ e6 => k1 rfl _ H6 (((e3' _).trans e5).trans e6) ⟨z, rfl⟩⟩⟩
      rw [(S.row _ (getD_mem (d := []) (by omega : j < R.length))).1]
      have := S.w4
      omega
    · obtain ⟨ns, rfl, hns⟩ := ints_acc hp
      refine q L H' ns (e1.trans e) (e1.free hL) h ?_
      rw [kept_all] at hns
      simp at hns
      omega
/-- runs_from(table, first, past, prices) -/
def spRf (a : Ad) : Sp := fun vs H Q E => ∃ v R w p ps lo hi, vs = [v, .int lo, .int hi, p] ∧ Tb a.CT H v R ∧ Shp R w ∧ PrAt H p ps ∧ ps.length = w ∧ -1000 < lo ∧ lo < 1000 ∧ -1000 < hi ∧ hi < 1000 ∧ ∀ z H', Same H H' → Q (.int z) H'
abbrev N_runs_from : List Str := ["table", "first", "past", "prices", "rows", "place", "price", "runs"]
theorem ok_runs_from (D : Def K mg "runs_from" 43) (T : Txt K mg a) (M : TabM P w K mg base a.CT) (c_runs_in : CalX P w K mg base 1 "runs_in" spRuns) (c_column : MetX P w K mg base 4 a.CT "column" (spCol a.CT)) : CalX P w K mg base 5 "runs_from" (spRf a) := by
  refine calx (N := N_runs_from) (ps := ["table", "first", "past", "prices"]) D (by decide +kernel) (fun vs H Q E h => ?_) (fun _ _ _ _ _ _ us hl => match us, hl with | [_, _, _, _], _ => rfl) (fun f cdv A outer s H vs Q E hr nd tk pn h => ⟨_, (pss_cons (ps_setLc (i := 4) (own := [("place", 5)]) rfl nd rfl rfl (sw_true rfl rfl rfl (by decide +kernel)) (pi_rg1 (by rfl) T.range (pa_cons (pe_width M hr (by decide) (pv 0)) pa_nil)) (blkOk_by (own := [("place", 5)]) (N := N_runs_from) (sc := defScope (top 43)) (by decide +kernel)) (fun _ _ _ _ _ => (pg_name (i := 5) nd rfl (Or.inl rfl))) (fun _ _ _ _ _ => pts_nil) (fun _ _ _ _ _ => (pe_cx c_runs_in hr (by decide) tk0 (pa_cons (pe_slice (sl_listK (K := K) rfl) (pe_col c_column T.k.cl hr (by decide) (pv 0) (pa_cons (pv 5) pa_nil)) (po_some (pv 1)) (po_some (pv 2))) pa_nil))))
      (pss_one (ps_ret (pe_callB (cr_sum rfl) (by rfl) T.sum bi_sum (pa_cons (pe_lc (own := [("price", 6), ("runs", 7)]) rfl nd (pi_z2 (by rfl) T.zip (pa_cons (pv 3) (pa_cons (pv 4) pa_nil))) (blkOk_by (own := [("price", 6), ("runs", 7)]) (N := N_runs_from) (sc := defScope (top 43)) (by decide +kernel)) (fun _ _ _ _ _ => (pg_tupK (K := K) (n := 2) rfl rfl (pgs_cons (pg_name (i := 6) nd rfl (Or.inl rfl)) (pgs_cons (pg_name (i := 7) nd rfl (Or.inl rfl)) pgs_nil)))) (fun _ _ _ _ _ => pts_nil) (fun _ _ _ _ _ => (pe_op op_mul (pv 6) (pe_callB (call_lenK (K := K) rfl M hr (by decide)) (by rfl) T.len bi_len (pa_cons (pv 7) pa_nil))))) pa_nil))))), ?_⟩)
  · obtain ⟨_, _, _, _, _, _, _, rfl, _⟩ := h
    rfl
  · obtain ⟨v, R, wd, p, ps, lo, hi, rfl, t, S, hp, hps, l1, l2, l3, l4, q⟩ := h
    clear tk pn nd hr
    walk_at "rd"
    simp only [spRuns, spCol]
    walk_at "ex"
    obtain ⟨row, R', rfl⟩ : ∃ row R', R = row :: R' := by
      cases R with
      | nil => exact absurd S.pos (by simp)
      | cons r R' => exact ⟨r, R', rfl⟩
    have hw := (S.row row (List.mem_cons_self ..)).1
    have w4 := S.w4
    have Sle := S.le
    refine ⟨row, R', t, by omega, by omega, fun L hL => ?_⟩
    refine lcF (fun _ => true) (fun _ v H' => ∃ r xs, v = .ref r ∧ r ≠ L ∧ H' r = some (.lst xs) ∧ xs.length ≤ 1000) hL (by omega) (fun _ _ H1 acc acc' _ h => ?_) (fun _ _ _ _ h e => ?_) (fun _ _ => trivial) (fun j v H2 H3 acc Nx hj e2 ha y k1 _ => ?_) (fun H1 acc e1 h hacc => ?_)
    · obtain ⟨r, xs, rfl, hne, hr, hx⟩ := h
      exact ⟨r, xs, rfl, hne, by rw [upd_ne hne]; exact hr, hx⟩
    · obtain ⟨r, xs, rfl, hne, hr, hx⟩ := h
      exact ⟨r, xs, rfl, hne, e _ _ hr, hx⟩
    · simp only [yV] at y
      obtain ⟨rfl, rfl⟩ := y
      refine ⟨⟨_, t.same e2⟩, _, wd, j, rfl, t.same e2, S, by omega, fun H4 L2 e4 _ hL2 => ⟨_, SqL.of hL2, fun p hp0 => ?_⟩⟩
      obtain ⟨ys, hys, hyl⟩ := cutV_ints (xs := col (row :: R') j) (lo := some lo) (hi := some hi)
      rw [hys]
      rw [col_len] at hyl
      refine ⟨ys, upd_same, by omega, fun r H5 ts e5 hr hlr hpr => ?_⟩
      have e6 : Same H3 H5 := (same_up e4 hp0).trans e5
      have hrL : r ≠ L := fun z => by
        have := same_up (o := .lst (ys.map V.int)) e4 hp0 _ _ ha
        rw [z, this] at hr
        exact nomatch hr
      refine k1 rfl _ H5 e6 ⟨r, _, rfl, hrL, hlr, ?_⟩
      have hz := hpr.length
      have hq : ∀ xs : List Int, (runsOf xs).length ≤ xs.length := runsOf_len
      have := hq ys
      simp at hz ⊢
      omega
    · obtain ⟨pa, rfl, hpa, hpv⟩ := hp
      have hpa1 := e1 _ _ hpa
      have hlen := hacc.length
      rw [kept_all] at hlen
      simp at hlen
      refine ⟨pa, rfl, false, true, _, sqA_t hpa1, _, sqA_l h, fun L2 hL2 => ?_⟩
      refine lcF (fun _ => true) (fun _ v _ => ∃ z, v = .int z) hL2 (by simp; omega) (fun _ _ _ _ _ _ h => h) (fun _ _ _ _ h _ => h) (fun H' e => ⟨sqA_t (e _ _ hpa1), sqA_l (e _ _ h)⟩) (fun j v H2 H3 acc2 Nx hj e2 ha y k1 _ => ?_) (fun H' acc2 e h2 hp2 => ?_)
      · simp only [yT] at y
        obtain ⟨T0, rfl, hT0, rfl⟩ := y
        simp only [List.length_map] at hj
        refine un2 upd_same ?_
        rw [getI (by omega)]
        have hj2 : j < acc.length := by omega
        obtain ⟨k0, _, r, xs, hv, _, hr, hx⟩ := paired_get (paired_flip hacc) (getD_some hj2)
        rw [hv]
        have e3 := fun o => same_up (o := o) e2 hT0
        have e3' := fun o => same_up (o := o) (Same.refl H2) hT0
        have hpr := hpv (ps.getD j 0) (getD_mem (by omega))
        refine len_l (e3 _ _ _ hr) ⟨_, rfl, _, rfl, smul (by omega) (by omega), k1 rfl _ _ (e3' _) ⟨_, rfl⟩⟩
      · obtain ⟨ns, rfl, hns⟩ := ints_acc hp2
        exact sum_l h2 (q _ _ (e1.trans e))
end
end G


set_option Elab.async false
set_option linter.all false
set_option maxRecDepth 100000
set_option maxHeartbeats 4000000
set_option pp.deepTerms true
set_option pp.maxSteps 100000
set_option format.width 230
namespace G
open PySem PySem.Spec PyProof.Rows L2
local macro_rules | `(tactic| walk_at "rd") => `(tactic| simp only [cxOf_K, tSeq, tIfS, tTest, tB, tCB, tCons, tNil, tC, tVar, tOp, tUn, tAndV, tOrV, tNotV, tAnd, tOr, tNot, tIf, tChain, tRet, tRetN, tAsg, gName, tDrop, tNext, tCallS, WE, rI0, rI, rU, L2.start, tYes, tLc, tFor, gTup, gCons, gNil, tPar, tPar3, tAug, ipI, tWidth, tCall, tMeth, tMake, tFld, tRows, tTable, sFld, rMulT, rSumT, gSub, tBM, rAppend, rSetL, rExtend, rSlL, rSlQ, tCol, Int.toNat_natCast,  tSl, tNoPart, tPart, tTup, tLst, tNever, itu_g,
  List.map_cons, List.map_nil, List.length_cons, List.length_nil, List.cons_append, List.nil_append, List.replicate, Nat.reduceAdd, Nat.reduceSub, Nat.zero_add, Nat.sub_self,
  List.getElem?_cons_zero, List.getElem?_cons_succ, List.set_cons_zero, List.set_cons_succ, wipe, Option.some.injEq, exists_eq_left', exists_eq_left, V.bl.injEq, V.int.injEq, ref_inj, ty_inj, if_true, if_false, Bool.false_eq_true, Bool.true_eq_false, exists_const, exists_and_left, true_and, and_true, List.cons.injEq,
  isB_int, isB_bool, isB_tuple, isB_list, isT_at, iSq, iRg1, iRg2, iZ2, iZ3, iEn])
local macro_rules | `(tactic| walk_at "r1") => `(tactic| simp only [cxOf_K, tSeq, tIfS, tTest, tB, tCB, tCons, tNil, tC, tVar, tOp, tUn, tAndV, tOrV, tNotV, tAnd, tOr, tNot, tIf, tChain, tRet, tRetN, tAsg, gName, tDrop, tNext, tCallS, WE, rI0, rI, rU, L2.start, tYes, gTup, gCons, gNil, tPar, tPar3, tAug, ipI, tWidth, tCall, tMeth, tMake, tFld, tRows, tTable, sFld, rMulT, rSumT, gSub, tBM, rAppend, rSetL, rExtend, rSlL, rSlQ, tCol, Int.toNat_natCast,  tSl, tNoPart, tPart, tTup, tLst, tNever, itu_g,
  List.map_cons, List.map_nil, List.length_cons, List.length_nil, List.cons_append, List.nil_append, List.replicate, Nat.reduceAdd, Nat.reduceSub, Nat.zero_add, Nat.sub_self,
  List.getElem?_cons_zero, List.getElem?_cons_succ, List.set_cons_zero, List.set_cons_succ, wipe, Option.some.injEq, exists_eq_left', exists_eq_left, V.bl.injEq, V.int.injEq, ref_inj, ty_inj, if_true, if_false, Bool.false_eq_true, Bool.true_eq_false, exists_const, exists_and_left, true_and, and_true, List.cons.injEq,
  isB_int, isB_bool, isB_tuple, isB_list, isT_at, iSq, iRg1, iRg2, iZ2, iZ3, iEn])
local macro_rules | `(tactic| walk_at "lp") => `(tactic| first | rw [tFor_def] | rw [tLc_def] | rw [tWhile_def])
local macro_rules | `(tactic| walk_at "ex") => `(tactic| simp only [List.cons.injEq, and_true, true_and, and_assoc, exists_and_left, exists_eq_left', exists_eq_left, exists_eq_right, exists_const, V.int.injEq, V.bl.injEq, ref_inj, Bool.not_true, Bool.not_false, Bool.false_eq_true, if_true, if_false, Bool.true_eq_false])
section
variable {P : Program} {w : World} {K : PySem.W.Frag} {mg : Str → Option Value} {base : Heap} {a : Ad}
/-- the class is raised, whatever has been made -/
def Rz (E : XK) (H : Hp) (C : Addr) : Prop := ∀ H', Same H H' → E (.ref C) none H'
theorem sum_pr : ∀ {ps : List Int}, (∀ x ∈ ps, 0 ≤ x ∧ x ≤ 9) → 0 ≤ ps.sum ∧ ps.sum ≤ 9 * ps.length
  | [], _ => by simp
  | x :: xs, hpv => by
    have h1 := hpv x (List.mem_cons_self ..)
    have h2 := sum_pr (ps := xs) (fun y hy => hpv y (List.mem_cons_of_mem _ hy))
    simp only [List.sum_cons, List.length_cons]
    omega
theorem shp_cons {R : List (List Int)} {w : Nat} (S : Shp R w) : ∃ row R', R = row :: R' ∧ row.length = w := by
  cases R with
  | nil => exact absurd S.pos (by simp)
  | cons r R' => exact ⟨r, R', rfl, (S.row r (List.mem_cons_self ..)).1⟩
/-- check_wide(table, wide) -/
def spCW (a : Ad) : Sp := fun vs H Q E => ∃ v wd R, vs = [v, wd] ∧ Tb a.CT H v R ∧ Tg a.CT H wd ∧ (isNum wd 1 R.length = true → Q .non H) ∧ (isNum wd 1 R.length = false → E (.ref a.cBI) none H)
abbrev N_check_wide : List Str := ["table", "wide"]
theorem ok_check_wide (D : Def K mg "check_wide" 44) (T : Txt K mg a) (M : TabM P w K mg base a.CT) (c_is_number : CalX P w K mg base 1 "is_number" (spNum a.CT)) : CalX P w K mg base 3 "check_wide" (spCW a) := by
  refine calx (N := N_check_wide) (ps := ["table", "wide"]) D (by decide +kernel) (fun vs H Q E h => ?_) (fun _ _ _ _ _ _ us hl => match us, hl with | [_, _], _ => rfl) (fun f cdv A outer s H vs Q E hr nd tk pn h => ⟨_, (pss_one (ps_if (pt_not (pt_val (pe_cx c_is_number hr (by decide) tk (pa_cons (pv 1) (pa_cons pe_int (pa_cons (pe_callB (call_lenK (K := K) rfl M hr (by decide)) (by rfl) T.len bi_len (pa_cons (pv 0) pa_nil)) pa_nil))))))
      (pss_one (ps_rz T.BadIndex tk))
      pss_nil)), ?_⟩)
  · obtain ⟨_, _, _, rfl, _⟩ := h
    rfl
  · obtain ⟨v, wd, R, rfl, t, g, q1, q2⟩ := h
    clear tk pn nd hr
    walk_at "rd"
    simp only [spNum]
    walk_at "ex"
    refine len_tb t ⟨_, rfl, g, ?_⟩
    cases h : isNum wd 1 R.length with
    | true => simp only [Bool.not_true, Bool.false_eq_true, if_false]; exact q1 h
    | false => simp only [Bool.not_false, if_true]; exact q2 h
/-- change_cost(table, at, prices) -/
def spCh (a : Ad) : Sp := fun vs H Q E => ∃ v R w p ps i, vs = [v, .int i, p] ∧ Tb a.CT H v R ∧ Shp R w ∧ PrAt H p ps ∧ ps.length = w ∧ 0 ≤ i ∧ i + 1 < R.length ∧ ∀ z H', Same H H' → Q (.int z) H'
abbrev N_change_cost : List Str := ["table", "at", "prices", "mine", "theirs", "price"]
theorem ok_change_cost (D : Def K mg "change_cost" 48) (T : Txt K mg a) : CalX P w K mg base 1 "change_cost" (spCh a) := by
  refine calx (N := N_change_cost) (ps := ["table", "at", "prices"]) D (by decide +kernel) (fun vs H Q E h => ?_) (fun _ _ _ _ _ _ us hl => match us, hl with | [_, _, _], _ => rfl) (fun f cdv A outer s H vs Q E hr nd tk pn h => ⟨_, (pss_one (ps_ret (pe_callB (cr_sum rfl) (by rfl) T.sum bi_sum (pa_cons (pe_lc (own := [("mine", 3), ("theirs", 4), ("price", 5)]) rfl nd (pi_z3 (by rfl) T.zip (pa_cons (pe_ix (ixK (K := K) rfl) (pe_rows T.k.cl T.nR (pv 0)) (pv 1) (fun _ _ => rfl)) (pa_cons (pe_ix (ixK (K := K) rfl) (pe_rows T.k.cl T.nR (pv 0)) (pe_op op_add (pv 1) pe_int) (fun _ _ => rfl)) (pa_cons (pv 2) pa_nil)))) (blkOk_by (own := [("mine", 3), ("theirs", 4), ("price", 5)]) (N := N_change_cost) (sc := defScope (top 48)) (by decide +kernel)) (fun _ _ _ _ _ => (pg_tupK (K := K) (n := 3) rfl rfl (pgs_cons (pg_name (i := 3) nd rfl (Or.inl rfl)) (pgs_cons (pg_name (i := 4) nd rfl (Or.inl rfl)) (pgs_cons (pg_name (i := 5) nd rfl (Or.inl rfl)) pgs_nil))))) (fun _ _ _ _ _ => (pts_one (pt_cmpR op_ne (pv 3) (pv 4) (nomark _)))) (fun _ _ _ _ _ => (pv 5))) pa_nil)))), ?_⟩)
  · obtain ⟨_, _, _, _, _, _, rfl, _⟩ := h
    rfl
  · obtain ⟨v, R, wd, p, ps, i, rfl, t, S, hp, hps, hi0, hi1, q⟩ := h
    clear tk pn nd hr
    walk_at "r1"
    walk_at "lp"
    walk_at "r1"
    have ht := t
    obtain ⟨ta, dx, r, ts, _, _, h1, h2⟩ := id t
    obtain ⟨pa, rfl, hpa, hpv⟩ := hp
    obtain ⟨r1, g1, g2⟩ := rowAtI h2 hi0 (by omega)
    obtain ⟨r2, g3, g4⟩ := rowAtI h2 (i := i + 1) (by omega) (by omega)
    have w4 := S.w4
    have n1 := (S.row _ (getD_mem (d := []) (show i.toNat < R.length by omega))).1
    have n2 := (S.row _ (getD_mem (d := []) (show (i + 1).toNat < R.length by omega))).1
    refine ⟨R, t, fun r0 ts0 k1 k2 => ?_⟩
    obtain ⟨r1, g1, g2⟩ := rowAtI k2 hi0 (by omega)
    refine ix_t k1 g1 ⟨R, t, fun r0 ts0 k1 k2 => ?_⟩
    obtain ⟨r2, g3, g4⟩ := rowAtI k2 (i := i + 1) (by omega) (by omega)
    refine ix_t k1 g3 ⟨r1, r2, pa, ⟨rfl, rfl, rfl⟩, false, false, false, _, sqA_t g2, _, sqA_t g4, _, sqA_t hpa, fun L hL => ?_⟩
    have hn : (List.map V.int (R.getD i.toNat [])).length ≤ 100000 := by rw [List.length_map, n1]; omega
    refine lcF (fun j => !decide ((R.getD i.toNat []).getD j 0 = (R.getD (i + 1).toNat []).getD j 0)) (fun _ v _ => ∃ z, v = .int z) hL (by omega) (fun _ _ _ _ _ _ h => h) (fun _ _ _ _ h _ => h)
      (fun H' e => ⟨sqA_t (e _ _ g2), sqA_t (e _ _ g4), sqA_t (e _ _ hpa)⟩) (fun j v H2 H3 acc Nx hj e2 ha y k1 k2 => ?_) (fun H' acc e h hp => ?_)
    · simp only [yT] at y
      obtain ⟨T0, rfl, hT0, rfl⟩ := y
      simp only [List.length_map] at hj
      refine un3 upd_same ?_
      rw [getI (by omega), getI (by omega), getI (by omega)]
      have e3' := fun o => same_up (o := o) (Same.refl H2) hT0
      refine ⟨rfl, _, rfl, ?_⟩
      rw [dec_int]
      split
      · next hb => exact k1 (by simpa using hb) _ _ (e3' _) ⟨_, rfl⟩
      · next hb => exact k2 (by simpa using hb) _ (e3' _)
    · obtain ⟨ns, rfl, hns⟩ := ints_acc hp
      exact sum_l h (q _ _ e)
/-- all that a page needs -/
def spPage (a : Ad) : Sp := fun vs H Q E => ∃ v lo hi p, vs = [v, lo, hi, p] ∧ Tg a.CT H v ∧ Tg a.CT H lo ∧ Tg a.CT H hi ∧ TgP a.CT H p ∧ (isT a.CT H v = false → Rz E H a.cBT) ∧ (isT a.CT H v = true → ∃ R w, Tb a.CT H v R ∧ Shp R w ∧
  ((isNum lo 0 (R.length - 1) = false ∨ ∃ i, lo = .int i ∧ isNum hi (i + 1) R.length = false) → Rz E H a.cBI) ∧
  ((∃ i, lo = .int i ∧ isNum lo 0 (R.length - 1) = true ∧ isNum hi (i + 1) R.length = true) → (prB H p w = false → Rz E H a.cBP) ∧ (prB H p w = true → ∀ z H', Same H H' → Q (.int z) H')))
abbrev N_page_cost : List Str := ["table", "first", "past", "prices"]
theorem ok_page_cost (D : Def K mg "page_cost" 45) (T : Txt K mg a) (M : TabM P w K mg base a.CT) (c_is_number : CalX P w K mg base 1 "is_number" (spNum a.CT)) (c_check_table : CalX P w K mg base 1 "check_table" (spCT a))
    (c_check_prices : CalX P w K mg base 3 "check_prices" (spCP a)) (c_runs_from : CalX P w K mg base 5 "runs_from" (spRf a)) : CalX P w K mg base 6 "page_cost" (spPage a) := by
  refine calx (N := N_page_cost) (ps := ["table", "first", "past", "prices"]) D (by decide +kernel) (fun vs H Q E h => ?_) (fun _ _ _ _ _ _ us hl => match us, hl with | [_, _, _, _], _ => rfl) (fun f cdv A outer s H vs Q E hr nd tk pn h => ⟨_, (pss_cons (ps_expr (pe_cx c_check_table hr (by decide) tk (pa_cons (pv 0) pa_nil)))
      (pss_cons (ps_if (PW.pt (pw_or (pt_not (pt_val (pe_cx c_is_number hr (by decide) tk (pa_cons (pv 1) (pa_cons pe_int (pa_cons (pe_op op_sub (pe_callB (call_lenK (K := K) rfl M hr (by decide)) (by rfl) T.len bi_len (pa_cons (pv 0) pa_nil)) pe_int) pa_nil)))))) (pw_or1 (pt_not (pt_val (pe_cx c_is_number hr (by decide) tk (pa_cons (pv 2) (pa_cons (pe_op op_add (pv 1) pe_int) (pa_cons (pe_callB (call_lenK (K := K) rfl M hr (by decide)) (by rfl) T.len bi_len (pa_cons (pv 0) pa_nil)) pa_nil)))))))))
      (pss_one (ps_rz T.BadIndex tk))
      pss_nil)
      (pss_cons (ps_expr (pe_cx c_check_prices hr (by decide) tk (pa_cons (pv 0) (pa_cons (pv 3) pa_nil))))
      (pss_one (ps_ret (pe_cx c_runs_from hr (by decide) tk (pa_cons (pv 0) (pa_cons (pv 1) (pa_cons (pv 2) (pa_cons (pv 3) pa_nil)))))))))), ?_⟩)
  · obtain ⟨_, _, _, _, rfl, _⟩ := h
    rfl
  · obtain ⟨v, lo, hi, p, rfl, gv, gl, gh, gp, no, yes⟩ := h
    clear tk pn nd hr
    walk_at "r1"
    simp only [spNum, spCT, spCP, spRf]
    walk_at "ex"
    refine ⟨gv, fun hT => ?_, fun hT => no hT _ (Same.refl H)⟩
    obtain ⟨R, wd, t, S, q1, q2⟩ := yes hT
    have Sle := S.le
    refine len_tb t ⟨_, rfl, gl, ?_⟩
    cases hlo : isNum lo 0 (R.length - 1) with
    | false => simp only [Bool.not_false, if_true]; exact q1 (.inl hlo) H (Same.refl H)
    | true =>
      simp only [Bool.not_true, Bool.false_eq_true, if_false]
      obtain ⟨i, rfl, hi0, hi1⟩ := isNum_of hlo
      refine ⟨i, rfl, len_tb t ⟨_, rfl, gh, ?_⟩⟩
      cases hhi : isNum hi (i + 1) R.length with
      | false => simp only [Bool.not_false, if_true]; exact q1 (.inr ⟨i, rfl, hhi⟩) H (Same.refl H)
      | true =>
        simp only [Bool.not_true, Bool.false_eq_true, if_false]
        obtain ⟨j, rfl, hj0, hj1⟩ := isNum_of hhi
        obtain ⟨q3, q4⟩ := q2 ⟨i, rfl, hlo, hhi⟩
        obtain ⟨row, R', rfl, hw⟩ := shp_cons S
        refine ⟨row, R', t, gp, ?_⟩
        rw [hw]
        refine ⟨fun hb H1 e1 => ?_, fun hb H1 e1 => q3 hb H1 e1⟩
        obtain ⟨ps, hps, hpl⟩ := prB_of hb
        exact ⟨_, wd, p, ps, i, rfl, j, rfl, rfl, t.same e1, S, hps.same e1, hpl, by omega, by omega, by omega, by omega, fun z H2 e2 => q4 hb z H2 (e1.trans e2)⟩
/-- all_cost(table, prices) -/
def spAll (a : Ad) : Sp := fun vs H Q E => ∃ v p, vs = [v, p] ∧ Tg a.CT H v ∧ TgP a.CT H p ∧ (isT a.CT H v = false → Rz E H a.cBT) ∧ (isT a.CT H v = true → ∃ R w, Tb a.CT H v R ∧ Shp R w ∧
  (prB H p w = false → Rz E H a.cBP) ∧ (prB H p w = true → ∀ z H', Same H H' → Q (.int z) H'))
abbrev N_all_cost : List Str := ["table", "prices", "many", "found", "at", "mine", "theirs", "price"]
theorem ok_all_cost (D : Def K mg "all_cost" 46) (T : Txt K mg a) (M : TabM P w K mg base a.CT) (c_check_table : CalX P w K mg base 1 "check_table" (spCT a)) (c_check_prices : CalX P w K mg base 3 "check_prices" (spCP a)) : CalX P w K mg base 4 "all_cost" (spAll a) := by
  refine calx (N := N_all_cost) (ps := ["table", "prices"]) D (by decide +kernel) (fun vs H Q E h => ?_) (fun _ _ _ _ _ _ us hl => match us, hl with | [_, _], _ => rfl) (fun f cdv A outer s H vs Q E hr nd tk pn h => ⟨_, (pss_cons (ps_expr (pe_cx c_check_table hr (by decide) tk (pa_cons (pv 0) pa_nil)))
      (pss_cons (ps_expr (pe_cx c_check_prices hr (by decide) tk (pa_cons (pv 0) (pa_cons (pv 1) pa_nil))))
      (pss_cons (ps_set (i := 2) nd rfl (Or.inl rfl) (pe_callB (call_lenK (K := K) rfl M hr (by decide)) (by rfl) T.len bi_len (pa_cons (pv 0) pa_nil)))
      (pss_cons (ps_set (i := 3) nd rfl (Or.inl rfl) (pe_op op_mul (pe_callB (cr_sumT rfl) (by rfl) T.sum bi_sum (pa_cons (pv 1) pa_nil)) (pe_op op_fdiv (pe_op op_mul (pv 2) (pe_op op_add (pv 2) pe_int)) pe_int)))
      (pss_cons (ps_for pn rfl (pi_rg2 (by rfl) T.range (pa_cons pe_int (pa_cons (pv 2) pa_nil))) (pg_name (i := 4) nd rfl (Or.inl rfl))
      (pss_one (ps_for pn rfl (pi_z3 (by rfl) T.zip (pa_cons (pe_ix (ixK (K := K) rfl) (pe_rows T.k.cl T.nR (pv 0)) (pe_op op_sub (pv 4) pe_int) (fun _ _ => rfl)) (pa_cons (pe_ix (ixK (K := K) rfl) (pe_rows T.k.cl T.nR (pv 0)) (pv 4) (fun _ _ => rfl)) (pa_cons (pv 1) pa_nil)))) (pg_tupK (K := K) (n := 3) rfl rfl (pgs_cons (pg_name (i := 5) nd rfl (Or.inl rfl)) (pgs_cons (pg_name (i := 6) nd rfl (Or.inl rfl)) (pgs_cons (pg_name (i := 7) nd rfl (Or.inl rfl)) pgs_nil))))
      (pss_one (ps_aug (i := 3) nd rfl (Or.inl rfl) (pe_ifExp (pt_cmpR op_ne (pv 5) (pv 6) (nomark _)) (pe_op op_mul (pe_op op_mul (pv 7) (pv 4)) (pe_op op_sub (pv 2) (pv 4))) pe_int) ip_add)))))
      (pss_one (ps_ret (pv 3)))))))), ?_⟩)
  · obtain ⟨_, _, rfl, _⟩ := h
    rfl
  · obtain ⟨v, p, rfl, gv, gp, no, yes⟩ := h
    clear tk pn nd hr
    walk_at "r1"
    simp only [spCT, spCP]
    walk_at "ex"
    refine ⟨gv, fun hT => ?_, fun hT => no hT _ (Same.refl H)⟩
    obtain ⟨R, wd, t, S, q1, q2⟩ := yes hT
    have Sle := S.le
    obtain ⟨row, R', hR, hw⟩ := shp_cons S
    refine ⟨row, R', hR ▸ t, gp, ?_⟩
    rw [hw]
    refine ⟨fun hb H1 e1 => ?_, fun hb H1 e1 => q1 hb H1 e1⟩
    obtain ⟨ps, hps, hpl⟩ := prB_of hb
    obtain ⟨pa, rfl, hpa, hpv⟩ := hps.same e1
    have t1 := t.same e1
    have q3 := q2 hb
    have hsum := sum_pr hpv
    have w4 := S.w4
    refine len_tb t1 ⟨pa, rfl, ps, hpa, _, rfl, _, rfl, smul (by omega) (by omega), ⟨by omega, by omega⟩, smul (by omega) (by omega), ?_⟩
    walk_at "lp"
    walk_at "r1"
    refine ⟨1, _, ⟨rfl, rfl⟩, ⟨by omega, by omega, by omega, by omega⟩, ?_⟩
    refine forB (fun i σ H' => Same H1 H' ∧ ∃ z v4 v5 v6 v7, σ = [some v, some (.ref pa), some (.int (R.length : Nat)), some (.int z), v4, v5, v6, v7]) ⟨Same.refl H1, _, none, none, none, none, rfl⟩ (fun i σ H' _ h => trivial) ?_ ?_
    · rintro i x σ H2 H3 Nx hi ⟨e2, z, v4, v5, v6, v7, rfl⟩ y nx
      simp only [yV] at y
      obtain ⟨rfl, rfl⟩ := y
      walk_at "r1"
      walk_at "lp"
      walk_at "r1"
      have t2 := t1.same e2
      have hpa2 := e2 _ _ hpa
      refine ⟨R, t2, fun r0 ts0 k1 k2 => ?_⟩
      obtain ⟨r1, g1, g2⟩ := rowAtI k2 (i := 1 + (i : Nat) - 1) (by omega) (by omega)
      refine ix_t k1 g1 ⟨R, t2, fun r0 ts0 k1 k2 => ?_⟩
      obtain ⟨r2, g3, g4⟩ := rowAtI k2 (i := 1 + (i : Nat)) (by omega) (by omega)
      refine ix_t k1 g3 ⟨r1, r2, pa, ⟨rfl, rfl, rfl⟩, false, false, false, _, sqA_t g2, _, sqA_t g4, _, sqA_t hpa2, ?_⟩
      refine forB (fun j σ H' => Same H3 H' ∧ ∃ z v5 v6 v7, σ = [some v, some (.ref pa), some (.int (R.length : Nat)), some (.int z), some (.int (1 + (i : Nat))), v5, v6, v7]) ⟨Same.refl H3, z, v5, v6, v7, rfl⟩
        (fun j σ H' _ h => ⟨sqA_t (h.1 _ _ g2), sqA_t (h.1 _ _ g4), sqA_t (h.1 _ _ hpa2)⟩) ?_ ?_
      · rintro j x σ H4 H5 Nx2 hj ⟨e4, z, v5, v6, v7, rfl⟩ y nx2
        simp only [yT] at y
        obtain ⟨T0, rfl, hT0, rfl⟩ := y
        simp only [List.length_map] at hj
        refine un3 upd_same ?_
        rw [getI (by omega), getI (by omega), getI (by omega)]
        walk_at "r1"
        have e5 := fun o => same_up (o := o) e4 hT0
        have hpr := hpv (ps.getD j 0) (getD_mem (by omega))
        refine ⟨rfl, _, rfl, ?_⟩
        split
        · exact ⟨smul (by omega) (by omega), smulR (by omega) (by omega), nx2 _ _ ⟨e5 _, _, _, _, _, rfl⟩⟩
        · exact nx2 _ _ ⟨e5 _, _, _, _, _, rfl⟩
      · rintro σ H4 ⟨e4, z, v5, v6, v7, rfl⟩
        exact nx _ _ ⟨e2.trans e4, _, _, _, _, _, rfl⟩
    · rintro σ H2 ⟨e2, z, v4, v5, v6, v7, rfl⟩
      walk_at "r1"
      exact q3 _ _ (e1.trans e2)
end
end G


set_option Elab.async false
set_option linter.all false
set_option maxRecDepth 100000
set_option maxHeartbeats 4000000
/-! Further rules of our own, 2. -/
namespace G
open PySem PySem.Spec PyProof.Rows L2
section
variable {X : Cx} {K : PySem.W.Frag}
theorem crK_all (hK : X.K = K) (hc : X.calm = true) : CallR X (.builtin "all") (rAll K) := by subst hK; exact cr_all hc
theorem crK_any (hK : X.K = K) (hc : X.calm = true) : CallR X (.builtin "any") (rAny K) := by subst hK; exact cr_any hc
theorem crK_sum (hK : X.K = K) (hc : X.calm = true) : CallR X (.builtin "sum") (rSum K) := by subst hK; exact cr_sum hc
theorem crK_max (hK : X.K = K) (hc : X.calm = true) : CallR X (.builtin "max") (rMax K) := by subst hK; exact cr_max hc
theorem crK_min (hK : X.K = K) (hc : X.calm = true) : CallR X (.builtin "min") (rMin K) := by subst hK; exact cr_min hc
theorem crK_sorted (hK : X.K = K) : CallR X (.builtin "sorted") (rSorted K) := by subst hK; exact cr_sorted
end
/-- some prices' words -/
theorem row_of {R : List (List Int)} {w i : Nat} (S : Shp R w) (h : i < R.length) : (R.getD i []).length = w := (S.row _ (getD_mem h)).1
theorem un2s {K : PySem.W.Frag} {H : Hp} {T : Addr} {a b : V} {P : V → V → Prop} (h : H T = some (.tup [a, b])) (p : P a b) :
    ∃ x, SqT K H T x ∧ x.length = 2 ∧ ∃ v r, x = v :: r ∧ ∃ v1 r1, r = v1 :: r1 ∧ r1 = [] ∧ P v v1 := ⟨_, SqT.of h, rfl, _, _, rfl, _, _, rfl, rfl, p⟩
theorem un3s {K : PySem.W.Frag} {H : Hp} {T : Addr} {a b c : V} {P : V → V → V → Prop} (h : H T = some (.tup [a, b, c])) (p : P a b c) :
    ∃ x, SqT K H T x ∧ x.length = 3 ∧ ∃ v r, x = v :: r ∧ ∃ v1 r1, r = v1 :: r1 ∧ ∃ v2 r2, r1 = v2 :: r2 ∧ r2 = [] ∧ P v v1 v2 := ⟨_, SqT.of h, rfl, _, _, rfl, _, _, rfl, _, _, rfl, rfl, p⟩
theorem max_ex : ∀ {ns : List Int}, 0 < ns.length → ∃ m ∈ ns, ∀ y ∈ ns, y ≤ m
  | [x], _ => ⟨x, List.mem_singleton.mpr rfl, fun y hy => by rw [List.mem_singleton.mp hy]; exact Int.le_refl _⟩
  | x :: y :: ns, _ => by
    obtain ⟨m, hm, h⟩ := max_ex (ns := y :: ns) (by simp)
    by_cases hx : x ≤ m
    · exact ⟨m, List.mem_cons_of_mem _ hm, fun z hz => by
        rcases List.mem_cons.mp hz with rfl | hz
        · exact hx
        · exact h z hz⟩
    · exact ⟨x, List.mem_cons_self .., fun z hz => by
        rcases List.mem_cons.mp hz with rfl | hz
        · exact Int.le_refl _
        · have := h z hz; omega⟩
/-- int(b) -/
theorem crB_int {X : Cx} : CallR X (.type "int") (fun xs H Q => ∃ k : Bool, xs = [.bl k] ∧ Q (.int (if k = true then 1 else 0)) H) := by
  intro pins s σ H xs us Q I r h
  obtain ⟨k, rfl, q⟩ := h
  exact call_int1 pins s σ H _ us Q I r (.inr ⟨k, rfl, q⟩)
theorem crI_int {X : Cx} : CallR X (.type "int") (fun xs H Q => ∃ k : Int, xs = [.int k] ∧ Q (.int k) H) := by
  intro pins s σ H xs us Q I r h
  obtain ⟨k, rfl, q⟩ := h
  exact call_int1 pins s σ H _ us Q I r (.inl ⟨k, rfl, q⟩)
end G


set_option Elab.async false
set_option linter.all false
set_option maxRecDepth 100000
set_option maxHeartbeats 4000000
set_option pp.deepTerms true
set_option pp.maxSteps 100000
set_option format.width 230
namespace G
open PySem PySem.Spec PyProof.Rows L2
local macro_rules | `(tactic| walk_at "rd") => `(tactic| simp only [cxOf_K, tSeq, tIfS, tTest, tB, tCB, tCons, tNil, tC, tVar, tOp, tUn, tAndV, tOrV, tNotV, tAnd, tOr, tNot, tIf, tChain, tRet, tRetN, tAsg, gName, tDrop, tNext, tCallS, WE, rI0, rI, rU, L2.start, tYes, tLc, tFor, gTup, gCons, gNil, tPar, tPar3, tAug, ipI, tWidth, tCall, tMeth, tMake, tFld, tRows, tTable, sFld, rMulT, rSumT, gSub, tBM, rAppend, rSetL, rExtend, rSlL, rSlQ, tCol, Int.toNat_natCast,  tSl, tNoPart, tPart, tTup, tLst, tNever, itu_g, sDPut, tDNewK,
  List.map_cons, List.map_nil, List.length_cons, List.length_nil, List.cons_append, List.nil_append, List.replicate, Nat.reduceAdd, Nat.reduceSub, Nat.zero_add, Nat.sub_self,
  List.getElem?_cons_zero, List.getElem?_cons_succ, List.set_cons_zero, List.set_cons_succ, wipe, Option.some.injEq, exists_eq_left', exists_eq_left, V.bl.injEq, V.int.injEq, ref_inj, ty_inj, if_true, if_false, Bool.false_eq_true, Bool.true_eq_false, exists_const, exists_and_left, true_and, and_true, List.cons.injEq,
  isB_int, isB_bool, isB_tuple, isB_list, isT_at, iSq, iRg1, iRg2, iZ2, iZ3, iEn])
local macro_rules | `(tactic| walk_at "r1") => `(tactic| simp only [cxOf_K, tSeq, tIfS, tTest, tB, tCB, tCons, tNil, tC, tVar, tOp, tUn, tAndV, tOrV, tNotV, tAnd, tOr, tNot, tIf, tChain, tRet, tRetN, tAsg, gName, tDrop, tNext, tCallS, WE, rI0, rI, rU, L2.start, tYes, gTup, gCons, gNil, tPar, tPar3, tAug, ipI, tWidth, tCall, tMeth, tMake, tFld, tRows, tTable, sFld, rMulT, rSumT, gSub, tBM, rAppend, rSetL, rExtend, rSlL, rSlQ, tCol, Int.toNat_natCast,  tSl, tNoPart, tPart, tTup, tLst, tNever, itu_g, sDPut, tDNewK,
  List.map_cons, List.map_nil, List.length_cons, List.length_nil, List.cons_append, List.nil_append, List.replicate, Nat.reduceAdd, Nat.reduceSub, Nat.zero_add, Nat.sub_self,
  List.getElem?_cons_zero, List.getElem?_cons_succ, List.set_cons_zero, List.set_cons_succ, wipe, Option.some.injEq, exists_eq_left', exists_eq_left, V.bl.injEq, V.int.injEq, ref_inj, ty_inj, if_true, if_false, Bool.false_eq_true, Bool.true_eq_false, exists_const, exists_and_left, true_and, and_true, List.cons.injEq,
  isB_int, isB_bool, isB_tuple, isB_list, isT_at, iSq, iRg1, iRg2, iZ2, iZ3, iEn])
local macro_rules | `(tactic| walk_at "lp") => `(tactic| first | rw [tFor_def] | rw [tLc_def] | rw [tWhile_def])
local macro_rules | `(tactic| walk_at "ex") => `(tactic| simp only [List.cons.injEq, and_true, true_and, and_assoc, exists_and_left, exists_eq_left', exists_eq_left, exists_eq_right, exists_const, V.int.injEq, V.bl.injEq, ref_inj, Bool.not_true, Bool.not_false, Bool.false_eq_true, if_true, if_false, Bool.true_eq_false])
section
variable {P : Program} {w : World} {K : PySem.W.Frag} {mg : Str → Option Value} {base : Heap} {a : Ad}
/-- sliding(table, wide, prices) -/
def spSl (a : Ad) : Sp := fun vs H Q E => ∃ v wd p, vs = [v, wd, p] ∧ Tg a.CT H v ∧ Tg a.CT H wd ∧ TgP a.CT H p ∧ (isT a.CT H v = false → Rz E H a.cBT) ∧ (isT a.CT H v = true → ∃ R w, Tb a.CT H v R ∧ Shp R w ∧
  (isNum wd 1 R.length = false → Rz E H a.cBI) ∧
  (isNum wd 1 R.length = true → (prB H p w = false → Rz E H a.cBP) ∧ (prB H p w = true → ∀ r H' (ns : List Int), Same H H' → H' r = some (.lst (ns.map V.int)) → 0 < ns.length → ns.length ≤ 100 → Q (.ref r) H')))
abbrev N_sliding : List Str := ["table", "wide", "prices", "found", "first", "late"]
theorem ok_sliding (D : Def K mg "sliding" 47) (T : Txt K mg a) (M : TabM P w K mg base a.CT) (c_check_table : CalX P w K mg base 1 "check_table" (spCT a)) (c_check_wide : CalX P w K mg base 3 "check_wide" (spCW a))
    (c_check_prices : CalX P w K mg base 3 "check_prices" (spCP a)) (c_runs_from : CalX P w K mg base 5 "runs_from" (spRf a)) (c_change_cost : CalX P w K mg base 1 "change_cost" (spCh a)) : CalX P w K mg base 6 "sliding" (spSl a) := by
  refine calx (N := N_sliding) (ps := ["table", "wide", "prices"]) D (by decide +kernel) (fun vs H Q E h => ?_) (fun _ _ _ _ _ _ us hl => match us, hl with | [_, _, _], _ => rfl) (fun f cdv A outer s H vs Q E hr nd tk pn h => ⟨_, (pss_cons (ps_expr (pe_cx c_check_table hr (by decide) tk (pa_cons (pv 0) pa_nil)))
      (pss_cons (ps_expr (pe_cx c_check_wide hr (by decide) tk (pa_cons (pv 0) (pa_cons (pv 1) pa_nil))))
      (pss_cons (ps_expr (pe_cx c_check_prices hr (by decide) tk (pa_cons (pv 0) (pa_cons (pv 2) pa_nil))))
      (pss_cons (ps_set (i := 3) nd rfl (Or.inl rfl) (pe_lst (pa_cons (pe_cx c_runs_from hr (by decide) tk (pa_cons (pv 0) (pa_cons pe_int (pa_cons (pv 1) (pa_cons (pv 2) pa_nil))))) pa_nil)))
      (pss_cons (ps_for pn rfl (pi_rg2 (by rfl) T.range (pa_cons pe_int (pa_cons (pe_op op_add (pe_op op_sub (pe_callB (call_lenK (K := K) rfl M hr (by decide)) (by rfl) T.len bi_len (pa_cons (pv 0) pa_nil)) (pv 1)) pe_int) pa_nil))) (pg_name (i := 4) nd rfl (Or.inl rfl))
      (pss_cons (ps_set (i := 5) nd rfl (Or.inl rfl) (pe_op op_sub (pe_op op_add (pe_ix (ixK (K := K) rfl) (pv 3) (pe_un un_neg pe_int) (fun _ _ => rfl)) (pe_cx c_change_cost hr (by decide) tk (pa_cons (pv 0) (pa_cons (pe_op op_sub (pe_op op_add (pv 4) (pv 1)) pe_int) (pa_cons (pv 2) pa_nil))))) (pe_cx c_change_cost hr (by decide) tk (pa_cons (pv 0) (pa_cons (pe_op op_sub (pv 4) pe_int) (pa_cons (pv 2) pa_nil))))))
      (pss_one (ps_expr (pe_bm PySem.F.plainAttrs_list PySem.F.slot_list_append PySem.F.type_list_append mt_append (pv 3) (pa_cons (pe_ifExp (pt_cmpR op_gt (pv 1) pe_int (nomark _)) (pv 5) (pe_ix (ixK (K := K) rfl) (pv 3) (pe_un un_neg pe_int) (fun _ _ => rfl))) pa_nil))))))
      (pss_one (ps_ret (pv 3)))))))), ?_⟩)
  · obtain ⟨_, _, _, rfl, _⟩ := h
    rfl
  · obtain ⟨v, wd, p, rfl, gv, gw, gp, no, yes⟩ := h
    clear tk pn nd hr
    walk_at "r1"
    simp only [spCT, spCW, spCP, spRf]
    walk_at "ex"
    refine ⟨gv, fun hT => ?_, fun hT => no hT _ (Same.refl H)⟩
    obtain ⟨R, w, t, S, q1, q2⟩ := yes hT
    have Sle := S.le
    refine ⟨R, t, gw, fun hw => ?_, fun hw => q1 hw _ (Same.refl H)⟩
    obtain ⟨q3, q4⟩ := q2 hw
    obtain ⟨row, R', hR, hrw⟩ := shp_cons S
    refine ⟨row, R', hR ▸ t, gp, ?_⟩
    rw [hrw]
    refine ⟨fun hb H1 e1 => ?_, fun hb H1 e1 => q3 hb H1 e1⟩
    have q5 := q4 hb
    obtain ⟨ps, hps, hpl⟩ := prB_of hb
    obtain ⟨i, rfl, hi0, hi1⟩ := isNum_of hw
    have t1 := t.same e1
    have P1 := hps.same e1
    refine ⟨R, w, p, ps, i, rfl, rfl, t1, S, P1, hpl, by omega, by omega, by omega, by omega, fun z H2 e2 => ⟨by decide, fun L hL => ?_⟩⟩
    have e3 : Same H1 (upd H2 L (.lst [.int z])) := same_up e2 hL
    have hL0 := hL
    have hf : upd H2 L (.lst [.int z]) L = some (.lst ([z].map V.int)) := upd_same
    have hLn : H1 L = none := e2.free hL
    generalize upd H2 L (.lst [.int z]) = H3 at e3 hf ⊢
    walk_at "lp"
    walk_at "r1"
    have t3 := t1.same e3
    have P3 := P1.same e3
    refine len_tb t3 ⟨_, rfl, 1, _, ⟨rfl, rfl⟩, ⟨by omega, by omega, by omega, by omega⟩, ?_⟩
    refine forB (fun k σ H' => Same H1 H' ∧ ∃ v4 v5 ns z, σ = [some v, some (.int i), some p, some (.ref L), v4, v5] ∧ H' L = some (.lst ((ns ++ [z]).map V.int)) ∧ ns.length ≤ k) ⟨e3, none, none, [], z, rfl, hf, Nat.le_refl _⟩ (fun k σ H' _ h => trivial) ?_ ?_
    · rintro k x σ H4 H5 Nx hk ⟨e4, v4, v5, ns, z, rfl, hf4, hlen⟩ y nx
      simp only [yV] at y
      obtain ⟨rfl, rfl⟩ := y
      walk_at "r1"
      simp only [spCh]
      walk_at "ex"
      rw [List.map_append] at hf4
      have t4 := t1.same e4
      have P4 := P1.same e4
      refine ix_l hf4 atI_last ⟨R, t4, w, S, ps, P4, hpl, by omega, by omega, fun z1 H6 e6 => ⟨_, rfl, R, t4.same e6, w, S, ps, P4.same e6, hpl, by omega, by omega, fun z2 H7 e7 => ?_⟩⟩
      have e8 := e6.trans e7
      have hf7 := e8 _ _ hf4
      have fin : ∀ z3 : Int, Nx [some v, some (.int i), some p, some (.ref L), some (.int (1 + (k : Int))), some (.int (z + z1 - z2))] (upd H7 L (.lst (ns.map V.int ++ [.int z] ++ [.int z3]))) := fun z3 =>
        nx _ _ ⟨same_new (e4.trans e8) hLn, _, _, ns ++ [z], z3, rfl, by rw [upd_same]; simp, by simp; omega⟩
      refine ⟨tyL hf7, ?_⟩
      split
      · exact ⟨_, hf7, small (by simp; omega), fin _⟩
      · exact ix_l hf7 atI_last ⟨_, hf7, small (by simp; omega), fin _⟩
    · rintro σ H4 ⟨e4, v4, v5, ns, z, rfl, hf4, hlen⟩
      walk_at "r1"
      exact q5 L H4 _ (e1.trans e4) hf4 (by simp) (by simp; omega)
/-- quiet(table) -/
def spQu (a : Ad) : Sp := fun vs H Q E => ∃ v, vs = [v] ∧ Tg a.CT H v ∧ (isT a.CT H v = false → Rz E H a.cBT) ∧ (isT a.CT H v = true → ∃ R w, Tb a.CT H v R ∧ Shp R w ∧ ∀ z H', Same H H' → Q z H')
abbrev N_quiet : List Str := ["table", "best", "begin", "at", "few"]
theorem ok_quiet (D : Def K mg "quiet" 50) (T : Txt K mg a) (c_check_table : CalX P w K mg base 1 "check_table" (spCT a)) (c_changes : CalX P w K mg base 4 "changes" (spChg a)) : CalX P w K mg base 5 "quiet" (spQu a) := by
  refine calx (N := N_quiet) (ps := ["table"]) D (by decide +kernel) (fun vs H Q E h => ?_) (fun _ _ _ _ _ _ us hl => match us, hl with | [_], _ => rfl) (fun f cdv A outer s H vs Q E hr nd tk pn h => ⟨_, (pss_cons (ps_expr (pe_cx c_check_table hr (by decide) tk (pa_cons (pv 0) pa_nil)))
      (pss_cons (ps_asg (pe_tup (pa_cons (pe_tup (pa_cons pe_int (pa_cons pe_int pa_nil))) (pa_cons pe_int pa_nil))) (pg_tupK (K := K) (n := 2) rfl rfl (pgs_cons (pg_name (i := 1) nd rfl (Or.inl rfl)) (pgs_cons (pg_name (i := 2) nd rfl (Or.inl rfl)) pgs_nil))))
      (pss_cons (ps_for pn rfl (pi_en (by rfl) T.enumerate (pa_cons (pe_cx c_changes hr (by decide) tk (pa_cons (pv 0) pa_nil)) pa_nil)) (pg_tupK (K := K) (n := 2) rfl rfl (pgs_cons (pg_name (i := 3) nd rfl (Or.inl rfl)) (pgs_cons (pg_name (i := 4) nd rfl (Or.inl rfl)) pgs_nil)))
      (pss_cons (ps_set (i := 2) nd rfl (Or.inl rfl) (pe_ifExp (pt_cmpR op_gt (pv 4) pe_int (nomark _)) (pe_op op_add (pv 3) pe_int) (pv 2)))
      (pss_one (ps_set (i := 1) nd rfl (Or.inl rfl) (pe_ifExp (pt_cmpR op_gt (pe_op op_sub (pe_op op_add (pv 3) pe_int) (pv 2)) (pe_ix (ixK (K := K) rfl) (pv 1) pe_int (fun _ _ => rfl)) (nomark _)) (pe_tup (pa_cons (pe_op op_sub (pe_op op_add (pv 3) pe_int) (pv 2)) (pa_cons (pv 2) pa_nil))) (pv 1))))))
      (pss_one (ps_ret (pv 1)))))), ?_⟩)
  · obtain ⟨_, rfl, _⟩ := h
    rfl
  · obtain ⟨v, rfl, gv, no, yes⟩ := h
    clear tk pn nd hr
    walk_at "r1"
    simp only [spCT]
    walk_at "ex"
    refine ⟨gv, fun hT => ?_, fun hT => no hT _ (Same.refl H)⟩
    obtain ⟨R, w, t, S, q1⟩ := yes hT
    have Sle := S.le
    refine ⟨by decide, fun p hp => ⟨by decide, fun p2 hp2 => ?_⟩⟩
    have e1 : Same H (upd H p (.tup [.int 1, .int 0])) := same_new (Same.refl H) hp
    have hb : upd H p (.tup [.int 1, .int 0]) p = some (.tup [.int 1, .int 0]) := upd_same
    generalize upd H p (.tup [.int 1, .int 0]) = H1 at e1 hb hp2 ⊢
    refine un2s upd_same ?_
    have e2 : Same H1 (upd H1 p2 (.tup [.ref p, .int 0])) := same_new (Same.refl H1) hp2
    generalize upd H1 p2 (.tup [.ref p, .int 0]) = H2 at e2 ⊢
    have hb2 := e2 _ _ hb
    have e3 := e1.trans e2
    walk_at "lp"
    walk_at "r1"
    simp only [spChg]
    walk_at "ex"
    have t3 := t.same e3
    have hT3 := t3.isT
    refine ⟨t3.tg, fun h => absurd (hT3.symm.trans h) (by decide), fun _ => ⟨R, t3, w, S, fun r H3 ns e4 hr4 hns hlen => ⟨true, _, sqA_l hns, ?_⟩⟩⟩
    refine forB (fun k σ H' => Same H3 H' ∧ ∃ b x y z v3 v4, σ = [some v, some (.ref b), some (.int z), v3, v4] ∧ H' b = some (.tup [.int x, .int y])) ⟨Same.refl _, p, 1, 0, 0, none, none, rfl, e4 _ _ hb2⟩ (fun k σ H' _ h => sqA_l (h.1 _ _ hns)) ?_ ?_
    · rintro k x σ H4 H5 Nx hk ⟨e5, b, x1, y1, z, v3, v4, rfl, hb4⟩ y nx
      simp only [yT] at y
      obtain ⟨T0, rfl, hT0, rfl⟩ := y
      simp only [List.length_map] at hk
      refine un2 upd_same ?_
      rw [getI hk]
      walk_at "r1"
      have e6 := fun o => same_up (o := o) (Same.refl H4) hT0
      have step : ∀ (z : Int) (H6 : Hp), Same H4 H6 → rIx K (.ref b) (.int 0) H6 fun y H2 => ∃ x, y = V.int x ∧ if decide (x < (k : Int) + 2 - z) = true then 2 ≤ sizeLine ∧ ∀ (p : Addr), H2 p = none → Nx [some v, some (V.ref p), some (V.int z), some (V.int k), some (V.int (ns.getD k 0))] (upd H2 p (HO.tup [V.int ((k : Int) + 2 - z), V.int z]))
          else Nx [some v, some (.ref b), some (.int z), some (.int k), some (.int (ns.getD k 0))] H2 := by
        intro z H6 e7
        refine ix_t (e7 _ _ hb4) (atI_nat (k := 0) rfl) ⟨_, rfl, ?_⟩
        split
        · exact ⟨by decide, fun p hp => nx _ _ ⟨(e5.trans e7).trans (same_new (Same.refl _) hp), _, _, _, _, _, _, rfl, upd_same⟩⟩
        · exact nx _ _ ⟨e5.trans e7, _, _, _, _, _, _, rfl, e7 _ _ hb4⟩
      split
      · exact step _ _ (e6 _)
      · exact step _ _ (e6 _)
    · rintro σ H4 ⟨e5, b, x1, y1, z, v3, v4, rfl, hb4⟩
      walk_at "r1"
      exact q1 _ _ ((e3.trans e4).trans e5)
/-- ends_of_most(table, wide, prices) -/
def spEm (a : Ad) : Sp := fun vs H Q E => ∃ v wd p, vs = [v, wd, p] ∧ Tg a.CT H v ∧ Tg a.CT H wd ∧ TgP a.CT H p ∧ (isT a.CT H v = false → Rz E H a.cBT) ∧ (isT a.CT H v = true → ∃ R w, Tb a.CT H v R ∧ Shp R w ∧
  (isNum wd 1 R.length = false → Rz E H a.cBI) ∧
  (isNum wd 1 R.length = true → (prB H p w = false → Rz E H a.cBP) ∧ (prB H p w = true → ∀ z H', Same H H' → Q z H')))
abbrev N_ends_of_most : List Str := ["table", "wide", "prices", "rows", "first", "whole"]
theorem ok_ends_of_most (D : Def K mg "ends_of_most" 49) (T : Txt K mg a) (c_sliding : CalX P w K mg base 6 "sliding" (spSl a)) : CalX P w K mg base 7 "ends_of_most" (spEm a) := by
  refine calx (N := N_ends_of_most) (ps := ["table", "wide", "prices"]) D (by decide +kernel) (fun vs H Q E h => ?_) (fun _ _ _ _ _ _ us hl => match us, hl with | [_, _, _], _ => rfl) (fun f cdv A outer s H vs Q E hr nd tk pn h => ⟨_, (pss_cons (ps_set (i := 3) nd rfl (Or.inr rfl) (pe_cx c_sliding hr (by decide) tk (pa_cons (pv 0) (pa_cons (pv 1) (pa_cons (pv 2) pa_nil)))))
      (pss_one (ps_ret (pe_lc (own := [("first", 4), ("whole", 5)]) rfl nd (pi_en (by rfl) T.enumerate (pa_cons (pv 3) pa_nil)) (blkOk_by (own := [("first", 4), ("whole", 5)]) (N := N_ends_of_most) (sc := defScope (top 49)) (by decide +kernel)) (fun _ _ _ _ _ => (pg_tupK (K := K) (n := 2) rfl rfl (pgs_cons (pg_name (i := 4) nd rfl (Or.inl rfl)) (pgs_cons (pg_name (i := 5) nd rfl (Or.inl rfl)) pgs_nil)))) (fun _ _ _ _ _ => (pts_one (pt_cmpR op_eq (pv 5) (pe_callB (crK_max (K := K) rfl rfl) (by rfl) T.max bi_max (pa_cons (pv 3) pa_nil)) (nomark _)))) (fun _ _ _ _ _ => (pv 4)))))), ?_⟩)
  · obtain ⟨_, _, _, rfl, _⟩ := h
    rfl
  · obtain ⟨v, wd, p, rfl, gv, gw, gp, no, yes⟩ := h
    clear tk pn nd hr
    walk_at "r1"
    simp only [spSl]
    walk_at "ex"
    refine ⟨gv, gw, gp, no, fun hT => ?_⟩
    obtain ⟨R, w, t, S, q1, q2⟩ := yes hT
    refine ⟨R, t, w, S, q1, fun hw => ⟨(q2 hw).1, fun hb r H1 ns e1 hr h0 h1 => ?_⟩⟩
    have q3 := (q2 hw).2 hb
    walk_at "lp"
    walk_at "r1"
    refine ⟨true, _, sqA_l hr, fun L hL => ?_⟩
    obtain ⟨mx, hm1, hm2⟩ := max_ex h0
    refine lcF (fun j => decide (ns.getD j 0 = mx)) (fun _ v _ => ∃ z, v = .int z) hL (by simp; omega) (fun _ _ _ _ _ _ h => h) (fun _ _ _ _ h _ => h) (fun H' e => sqA_l (e _ _ hr)) (fun j v H2 H3 acc Nx hj e2 ha y k1 k2 => ?_) (fun H' acc e h hp => ?_)
    · simp only [yT] at y
      obtain ⟨T0, rfl, hT0, rfl⟩ := y
      simp only [List.length_map] at hj
      refine un2 upd_same ?_
      rw [getI hj]
      have e3 := fun o => same_up (o := o) (Same.refl H2) hT0
      refine max_l (e3 _ _ _ (e2 _ _ hr)) h0 fun m hm hm' => ⟨rfl, _, rfl, ?_⟩
      have em : m = mx := by
        have a1 := hm' mx hm1
        have a2 := hm2 m hm
        omega
      rw [em, dec_int]
      split
      · next hb => exact k1 (by simpa using hb) _ _ (e3 _) ⟨_, rfl⟩
      · next hb => exact k2 (by simpa using hb) _ (e3 _)
    · exact q3 _ _ (e1.trans e)
end
end G


set_option Elab.async false
set_option linter.all false
set_option maxRecDepth 100000
set_option maxHeartbeats 4000000
set_option pp.deepTerms true
set_option pp.maxSteps 100000
set_option format.width 230
namespace G
open PySem PySem.Spec PyProof.Rows L2
local macro_rules | `(tactic| walk_at "rd") => `(tactic| simp only [cxOf_K, tSeq, tIfS, tTest, tB, tCB, tCons, tNil, tC, tVar, tOp, tUn, tAndV, tOrV, tNotV, tAnd, tOr, tNot, tIf, tChain, tRet, tRetN, tAsg, gName, tDrop, tNext, tCallS, WE, rI0, rI, rU, L2.start, tYes, tLc, tFor, gTup, gCons, gNil, tPar, tPar3, tAug, ipI, tWidth, tCall, tMeth, tMake, tFld, tRows, tTable, sFld, rMulT, rSumT, gSub, tBM, rAppend, rSetL, rExtend, rSlL, rSlQ, tCol, Int.toNat_natCast,  tSl, tNoPart, tPart, tTup, tLst, tNever, itu_g, sDPut, tDNewK,
  List.map_cons, List.map_nil, List.length_cons, List.length_nil, List.cons_append, List.nil_append, List.replicate, Nat.reduceAdd, Nat.reduceSub, Nat.zero_add, Nat.sub_self,
  List.getElem?_cons_zero, List.getElem?_cons_succ, List.set_cons_zero, List.set_cons_succ, wipe, Option.some.injEq, exists_eq_left', exists_eq_left, V.bl.injEq, V.int.injEq, ref_inj, ty_inj, if_true, if_false, Bool.false_eq_true, Bool.true_eq_false, exists_const, exists_and_left, true_and, and_true, List.cons.injEq,
  isB_int, isB_bool, isB_tuple, isB_list, isT_at, iSq, iRg1, iRg2, iZ2, iZ3, iEn])
local macro_rules | `(tactic| walk_at "r1") => `(tactic| simp only [cxOf_K, tSeq, tIfS, tTest, tB, tCB, tCons, tNil, tC, tVar, tOp, tUn, tAndV, tOrV, tNotV, tAnd, tOr, tNot, tIf, tChain, tRet, tRetN, tAsg, gName, tDrop, tNext, tCallS, WE, rI0, rI, rU, L2.start, tYes, gTup, gCons, gNil, tPar, tPar3, tAug, ipI, tWidth, tCall, tMeth, tMake, tFld, tRows, tTable, sFld, rMulT, rSumT, gSub, tBM, rAppend, rSetL, rExtend, rSlL, rSlQ, tCol, Int.toNat_natCast,  tSl, tNoPart, tPart, tTup, tLst, tNever, itu_g, sDPut, tDNewK,
  List.map_cons, List.map_nil, List.length_cons, List.length_nil, List.cons_append, List.nil_append, List.replicate, Nat.reduceAdd, Nat.reduceSub, Nat.zero_add, Nat.sub_self,
  List.getElem?_cons_zero, List.getElem?_cons_succ, List.set_cons_zero, List.set_cons_succ, wipe, Option.some.injEq, exists_eq_left', exists_eq_left, V.bl.injEq, V.int.injEq, ref_inj, ty_inj, if_true, if_false, Bool.false_eq_true, Bool.true_eq_false, exists_const, exists_and_left, true_and, and_true, List.cons.injEq,
  isB_int, isB_bool, isB_tuple, isB_list, isT_at, iSq, iRg1, iRg2, iZ2, iZ3, iEn])
local macro_rules | `(tactic| walk_at "lp") => `(tactic| first | rw [tFor_def] | rw [tLc_def] | rw [tWhile_def])
local macro_rules | `(tactic| walk_at "ex") => `(tactic| simp only [List.cons.injEq, and_true, true_and, and_assoc, exists_and_left, exists_eq_left', exists_eq_left, exists_eq_right, exists_const, V.int.injEq, V.bl.injEq, ref_inj, Bool.not_true, Bool.not_false, Bool.false_eq_true, if_true, if_false, Bool.true_eq_false])
section
variable {P : Program} {w : World} {K : PySem.W.Frag} {mg : Str → Option Value} {base : Heap} {a : Ad}
/-! ### joins -/
def srtB (R : List (List Int)) : Bool := decide ((col R 0).Pairwise (· ≤ ·))
theorem perm_eq : ∀ {xs ys : List Int}, xs.Perm ys → xs.Pairwise (· ≤ ·) → ys.Pairwise (· ≤ ·) → xs = ys := by
  intro xs
  induction xs with
  | nil => intro ys h _ _; exact (List.Perm.nil_eq h)
  | cons x xs ih =>
    intro ys h h1 h2
    cases ys with
    | nil => exact absurd (List.Perm.eq_nil h) (by simp)
    | cons y ys =>
      have e : x = y := by
        have a1 : x ∈ y :: ys := h.subset (List.mem_cons_self ..)
        have a2 : y ∈ x :: xs := h.symm.subset (List.mem_cons_self ..)
        have b1 := List.pairwise_cons.mp h1
        have b2 := List.pairwise_cons.mp h2
        rcases List.mem_cons.mp a1 with a1 | a1
        · exact a1
        · rcases List.mem_cons.mp a2 with a2 | a2
          · exact a2.symm
          · have c1 := b1.1 y a2
            have c2 := b2.1 x a1
            omega
      subst e
      rw [ih (List.Perm.cons_inv h) (List.pairwise_cons.mp h1).2 (List.pairwise_cons.mp h2).2]
theorem eqv_ints : ∀ (xs ys : List Int), PyData.eqvAll (xs.map PyData.int) (ys.map PyData.int) = decide (xs = ys)
  | [], [] => rfl
  | [], _ :: _ => rfl
  | _ :: _, [] => rfl
  | x :: xs, y :: ys => by
    have ih := eqv_ints xs ys
    show (PyData.eqv (.int x) (.int y) && PyData.eqvAll (xs.map PyData.int) (ys.map PyData.int)) = _
    rw [ih]
    show (x == y && decide (xs = ys)) = _
    by_cases h : x = y <;> by_cases h2 : xs = ys <;> simp [h, h2]
theorem eqv_intL (xs ys : List Int) : PyData.eqv (.list (xs.map PyData.int)) (.list (ys.map PyData.int)) = decide (xs = ys) := eqv_ints xs ys
theorem ne_ints {K : PySem.W.Frag} {H : Hp} {Q : VK} {p q : Addr} {xs ys : List Int} (h : H p = some (.lst (xs.map V.int))) (h' : H q = some (.lst (ys.map V.int))) (k : Q (.bl (!decide (xs = ys))) H) : rNeD K (.ref p) (.ref q) H Q :=
  ⟨_, _, .lst (SqL.of h) (dp_ints _), .lst (SqL.of h') (dp_ints _), sh_intL _, sh_intL _, by rw [eqv_intL]; exact k⟩
theorem eq_ints {K : PySem.W.Frag} {H : Hp} {Q : VK} {p q : Addr} {xs ys : List Int} (h : H p = some (.lst (xs.map V.int))) (h' : H q = some (.lst (ys.map V.int))) (k : Q (.bl (decide (xs = ys))) H) : rEqD K (.ref p) (.ref q) H Q :=
  ⟨_, _, .lst (SqL.of h) (dp_ints _), .lst (SqL.of h') (dp_ints _), sh_intL _, sh_intL _, by rw [eqv_intL]; exact k⟩
theorem srt_eq {xs ys : List Int} (h : ys.Perm xs) (hs : ys.Pairwise (· ≤ ·)) : decide (xs = ys) = decide (xs.Pairwise (· ≤ ·)) := by
  by_cases h1 : xs.Pairwise (· ≤ ·)
  · rw [decide_eq_true h1, decide_eq_true (perm_eq h.symm h1 hs)]
  · rw [decide_eq_false h1, decide_eq_false fun e => h1 (by rw [e]; exact hs)]
theorem runStep_cnt {acc : List (Int × Int)} {v n : Int} (h : ∀ p ∈ acc, 1 ≤ p.2 ∧ p.2 ≤ n) (hn : 0 ≤ n) : ∀ p ∈ runStep acc v, 1 ≤ p.2 ∧ p.2 ≤ n + 1 := by
  intro p hp
  unfold runStep at hp
  split at hp
  · next q hq =>
    have hm := h q (List.mem_of_getLast? hq)
    split at hp
    · rcases List.mem_append.mp hp with hp | hp
      · have := h p (List.dropLast_subset _ hp)
        omega
      · rw [List.mem_singleton.mp hp]
        simp only
        omega
    · rcases List.mem_append.mp hp with hp | hp
      · have := h p hp
        omega
      · rw [List.mem_singleton.mp hp]
        simp only
        omega
  · rw [List.mem_singleton.mp hp]
    simp only
    omega
theorem runsOf_cnt' : ∀ (xs : List Int) (acc : List (Int × Int)) (n : Nat), (∀ p ∈ acc, 1 ≤ p.2 ∧ p.2 ≤ (n : Int)) → ∀ p ∈ xs.foldl runStep acc, 1 ≤ p.2 ∧ p.2 ≤ ((n + xs.length : Nat) : Int)
  | [], acc, n, h => by simpa using h
  | x :: xs, acc, n, h => by
    have h1 := runStep_cnt (v := x) h (by omega)
    have h2 := runsOf_cnt' xs (runStep acc x) (n + 1) (by intro p hp; have := h1 p hp; omega)
    intro p hp
    have := h2 p hp
    rw [List.length_cons]
    omega
theorem runsOf_cnt (xs : List Int) : ∀ p ∈ runsOf xs, 1 ≤ p.2 ∧ p.2 ≤ (xs.length : Int) := by
  have := runsOf_cnt' xs [] 0 (fun _ h => nomatch h)
  simpa [runsOf] using this
/-- check_sorted(one, other) -/
def spCS (a : Ad) : Sp := fun vs H Q E => ∃ v u, vs = [v, u] ∧ Tg a.CT H v ∧ Tg a.CT H u ∧ (isT a.CT H v = false → Rz E H a.cBT) ∧ (isT a.CT H v = true → isT a.CT H u = false → Rz E H a.cBT) ∧
  (isT a.CT H v = true → isT a.CT H u = true → ∃ R w R' w', Tb a.CT H v R ∧ Shp R w ∧ Tb a.CT H u R' ∧ Shp R' w' ∧ ((srtB R && srtB R') = false → Rz E H a.cBO) ∧ ((srtB R && srtB R') = true → ∀ H', Same H H' → Q .non H'))
abbrev N_check_sorted : List Str := ["one", "other", "table"]
theorem ok_check_sorted (D : Def K mg "check_sorted" 52) (T : Txt K mg a) (c_check_table : CalX P w K mg base 1 "check_table" (spCT a)) (c_column : MetX P w K mg base 4 a.CT "column" (spCol a.CT)) : CalX P w K mg base 5 "check_sorted" (spCS a) := by
  refine calx (N := N_check_sorted) (ps := ["one", "other"]) D (by decide +kernel) (fun vs H Q E h => ?_) (fun _ _ _ _ _ _ us hl => match us, hl with | [_, _], _ => rfl) (fun f cdv A outer s H vs Q E hr nd tk pn h => ⟨_, (pss_cons (ps_expr (pe_cx c_check_table hr (by decide) tk (pa_cons (pv 0) pa_nil)))
      (pss_cons (ps_expr (pe_cx c_check_table hr (by decide) tk (pa_cons (pv 1) pa_nil)))
      (pss_one (ps_for pn rfl (pi_sq (pe_tup (pa_cons (pv 0) (pa_cons (pv 1) pa_nil)))) (pg_name (i := 2) nd rfl (Or.inl rfl))
      (pss_one (ps_if (pt_cmpR (op_neD hr.units) (pe_col c_column T.k.cl hr (by decide) (pv 2) (pa_cons pe_int pa_nil)) (pe_callB (crK_sorted (K := K) rfl) (by rfl) T.sorted bi_sorted (pa_cons (pe_col c_column T.k.cl hr (by decide) (pv 2) (pa_cons pe_int pa_nil)) pa_nil)) (nomark _))
      (pss_one (ps_rz T.BadOrder tk))
      pss_nil)))))), ?_⟩)
  · obtain ⟨_, _, rfl, _⟩ := h
    rfl
  · obtain ⟨v, u, rfl, gv, gu, no, no2, yes⟩ := h
    clear tk pn nd hr
    walk_at "r1"
    simp only [spCT]
    walk_at "ex"
    refine ⟨gv, fun hv => ⟨gu, fun hu => ?_, fun hu => no2 hv hu _ (Same.refl H)⟩, fun hv => no hv _ (Same.refl H)⟩
    obtain ⟨R, w, R', w', t, S, t', S', q1, q2⟩ := yes hv hu
    walk_at "lp"
    walk_at "r1"
    refine ⟨by decide, fun p hp => ⟨false, _, sqA_t upd_same, ?_⟩⟩
    have e0 : Same H (upd H p (.tup [v, u])) := same_new (Same.refl H) hp
    have hpt : upd H p (.tup [v, u]) p = some (.tup [v, u]) := upd_same
    generalize upd H p (.tup [v, u]) = H0 at e0 hpt ⊢
    refine forB (fun i σ H' => Same H0 H' ∧ (1 ≤ i → srtB R = true) ∧ (2 ≤ i → srtB R' = true) ∧ ∃ v2, σ = [some v, some u, v2]) ⟨Same.refl H0, by omega, by omega, none, rfl⟩ (fun i σ H' _ h => sqA_t (h.1 _ _ hpt)) ?_ ?_
    · rintro i x σ H1 H2 Nx hi ⟨e1, s1, s2, v2, rfl⟩ y nx
      simp only [yV] at y
      obtain ⟨rfl, rfl⟩ := y
      have hi2 : i < 2 := hi
      obtain ⟨x, R, w, hx, tx, Sx, k1, k2⟩ : ∃ x R w, [v, u].getD i .non = x ∧ Tb a.CT H x R ∧ Shp R w ∧ (srtB R = false → Rz E H a.cBO) ∧ (srtB R = true → ∀ H3, Same H2 H3 → Nx [some v, some u, some x] H3) := by
        rcases (by omega : i = 0 ∨ i = 1) with rfl | rfl
        · exact ⟨v, R, w, rfl, t, S, fun h => q1 (by rw [h]; rfl), fun h H3 e3 => nx _ _ ⟨e1.trans e3, fun _ => h, fun h => absurd h (by decide), _, rfl⟩⟩
        · exact ⟨u, R', w', rfl, t', S', fun h => q1 (by rw [h, Bool.and_false]), fun h H3 e3 => nx _ _ ⟨e1.trans e3, fun _ => s1 (Nat.le_refl _), fun _ => h, _, rfl⟩⟩
      rw [hx]
      walk_at "r1"
      have t1 := (tx.same e0).same e1
      have w1 := Sx.w1
      refine ⟨⟨R, t1⟩, R, w, 0, rfl, t1, Sx, w1, fun H3 L2 e2 hL hL2 => ⟨⟨R, t1.same e2⟩, R, w, 0, rfl, t1.same e2, Sx, w1, fun H4 L3 e3 hL' hL3 => ⟨L3, _, rfl, SqL.of hL3, by rw [col_len]; have := Sx.le; omega, fun ns p hp hs hn => ?_⟩⟩⟩
      refine ne_ints (upd_lst (e3 _ _ hL2) hn) upd_same ⟨_, rfl, ?_⟩
      rw [srt_eq hp hs]
      have e4 : Same H2 (upd H4 p (.lst (ns.map V.int))) := same_up (e2.trans e3) hn
      cases h : srtB R with
      | true =>
        have h' : decide ((col R 0).Pairwise (· ≤ ·)) = true := h
        rw [h']
        simp only [Bool.not_true, Bool.false_eq_true, if_false]
        exact k2 h _ e4
      | false =>
        have h' : decide ((col R 0).Pairwise (· ≤ ·)) = false := h
        rw [h']
        simp only [Bool.not_false, if_true]
        exact k1 h _ ((e0.trans e1).trans e4)
    · rintro σ H1 ⟨e1, s1, s2, v2, rfl⟩
      exact q2 (by rw [s1 (by simp), s2 (by simp)]; rfl) _ (e0.trans e1)
def EdgeOk (row : List Int) : Prop := ∃ v s e, row = [v, s, e] ∧ 0 ≤ s ∧ s ≤ e ∧ e ≤ 100
/-- edges_in(table) -/
def spEd (a : Ad) : Sp := fun vs H Q E => ∃ v R w, vs = [v] ∧ Tb a.CT H v R ∧ Shp R w ∧ ∀ r H' ts Es, Same H H' → H r = none → H' r = some (.lst (ts.map V.ref)) → Paired (RowAt H') ts Es → (∀ row ∈ Es, EdgeOk row) → Es.length ≤ 10 → Q (.ref r) H'
abbrev N_edges_in : List Str := ["table", "found", "at", "value", "many"]
theorem ok_edges_in (D : Def K mg "edges_in" 54) (T : Txt K mg a) (c_runs_in : CalX P w K mg base 1 "runs_in" spRuns) (c_column : MetX P w K mg base 4 a.CT "column" (spCol a.CT)) : CalX P w K mg base 5 "edges_in" (spEd a) := by
  refine calx (N := N_edges_in) (ps := ["table"]) D (by decide +kernel) (fun vs H Q E h => ?_) (fun _ _ _ _ _ _ us hl => match us, hl with | [_], _ => rfl) (fun f cdv A outer s H vs Q E hr nd tk pn h => ⟨_, (pss_cons (ps_par (i := 1) (j := 2) rfl nd rfl rfl (by decide) rfl rfl (pa_cons (pe_lst pa_nil) (pa_cons pe_int pa_nil)) (by rfl))
      (pss_cons (ps_for pn rfl (pi_sq (pe_cx c_runs_in hr (by decide) tk (pa_cons (pe_col c_column T.k.cl hr (by decide) (pv 0) (pa_cons pe_int pa_nil)) pa_nil))) (pg_tupK (K := K) (n := 2) rfl rfl (pgs_cons (pg_name (i := 3) nd rfl (Or.inl rfl)) (pgs_cons (pg_name (i := 4) nd rfl (Or.inl rfl)) pgs_nil)))
      (pss_cons (ps_expr (pe_bm PySem.F.plainAttrs_list PySem.F.slot_list_append PySem.F.type_list_append mt_append (pv 1) (pa_cons (pe_tup (pa_cons (pv 3) (pa_cons (pv 2) (pa_cons (pe_op op_add (pv 2) (pv 4)) pa_nil)))) pa_nil)))
      (pss_one (ps_aug (i := 2) nd rfl (Or.inl rfl) (pv 4) ip_add))))
      (pss_one (ps_ret (pv 1))))), ?_⟩)
  · obtain ⟨_, _, _, rfl, _⟩ := h
    rfl
  · obtain ⟨v, R, w, rfl, t, S, q⟩ := h
    clear tk pn nd hr
    walk_at "r1"
    refine ⟨by decide, fun L hL => ⟨_, _, ⟨rfl, rfl⟩, ?_⟩⟩
    have e0 : Same H (upd H L (.lst [])) := same_new (Same.refl H) hL
    have hf0 : upd H L (.lst []) L = some (.lst []) := upd_same
    generalize upd H L (.lst []) = H0 at e0 hf0 ⊢
    walk_at "lp"
    walk_at "r1"
    simp only [spRuns]
    walk_at "ex"
    have t0 := t.same e0
    have Sle := S.le
    refine ⟨⟨R, t0⟩, R, w, 0, rfl, t0, S, S.w1, fun H1 L1 e1 hL1 hl1 => ⟨_, hl1, by rw [col_len]; omega, fun r H2 ts e2 hr hr2 hp2 => ⟨true, _, sqA_l hr2, ?_⟩⟩⟩
    have hlen := runsOf_len (col R 0)
    rw [col_len] at hlen
    have hz := hp2.length
    rw [List.length_map] at hz
    have e02 := e1.trans e2
    have hLr : r ≠ L := fun z => by
      rw [z, e1 _ _ hf0] at hr
      exact nomatch hr
    refine forB (fun i σ H' => (∀ b o, H2 b = some o → b ≠ L → H' b = some o) ∧ ∃ z v3 v4 ts' Es, σ = [some v, some (.ref L), some (.int z), v3, v4] ∧ H' L = some (.lst (ts'.map V.ref)) ∧ Paired (RowAt H') ts' Es ∧ (∀ row ∈ Es, EdgeOk row) ∧ Es.length = i ∧ 0 ≤ z ∧ z ≤ 10 * (i : Int))
      ⟨fun b o h _ => h, 0, none, none, [], [], rfl, e02 _ _ hf0, .nil, (fun _ h => nomatch h), rfl, by omega, by omega⟩ (fun i σ H' _ h => sqA_l (h.1 _ _ hr2 hLr)) ?_ ?_
    · rintro i x σ H3 H4 Nx hi ⟨e3, z, v3, v4, ts', Es, rfl, hf, hp, hE, hEl, hz0, hz1⟩ y nx
      simp only [yV] at y
      obtain ⟨rfl, rfl⟩ := y
      rw [List.length_map] at hi
      obtain ⟨t1, g1, _, g3⟩ := rowAt hp2 (i := i) (by rw [List.length_map]; omega)
      rw [g1]
      have hpr : ((runsOf (col R 0)).map pr2).getD i [] = pr2 ((runsOf (col R 0)).getD i (0, 0)) := by
        rw [List.getD_eq_getElem?_getD, List.getD_eq_getElem?_getD, List.getElem?_map, List.getElem?_eq_getElem (by omega)]
        rfl
      rw [hpr] at g3
      have hcnt := runsOf_cnt (col R 0) _ (getD_mem (d := ((0 : Int), (0 : Int))) (show i < (runsOf (col R 0)).length by omega))
      rw [col_len] at hcnt
      generalize (runsOf (col R 0)).getD i (0, 0) = pq at g3 hcnt
      obtain ⟨va, ca⟩ := pq
      simp only at hcnt
      have g4 : H4 t1 = some (.tup [.int va, .int ca]) := e3 _ _ g3 (fun z => by
        have g5 : H2 t1 = some (.tup [.int va, .int ca]) := g3
        rw [z, e02 _ _ hf0] at g5
        exact nomatch g5)
      refine un2 g4 ?_
      walk_at "r1"
      refine ⟨tyL hf, by decide, fun p hp0 => ⟨_, upd_lst hf hp0, small (by have := hp.length; simp; omega), ?_⟩⟩
      have hLp : L ≠ p := ne_of_none hf hp0
      refine nx _ _ ⟨fun b o hb hne => ?_, _, _, _, ts' ++ [p], Es ++ [[va, z, z + ca]], rfl, by rw [upd_same, List.map_append]; rfl, rows_keep (paired_snoc (rows_same hp (same_up (Same.refl _) hp0)) (show RowAt _ p [va, z, z + ca] from upd_same)) (upd_lst hf hp0), ?_, by simp [hEl], by omega, by omega⟩
      · rw [upd_ne hne, upd_ne (ne_of_none (e3 b o hb hne) hp0)]
        exact e3 b o hb hne
      · intro row hrow
        rcases List.mem_append.mp hrow with h | h
        · exact hE row h
        · rw [List.mem_singleton.mp h]
          exact ⟨va, z, z + ca, rfl, hz0, by omega, by omega⟩
    · rintro σ H3 ⟨e3, z, v3, v4, ts', Es, rfl, hf, hp, hE, hEl, hz0, hz1⟩
      walk_at "r1"
      rw [List.length_map] at hEl
      refine q L H3 ts' Es (fun b o hb => ?_) hL hf hp hE (by omega)
      exact e3 b o ((e0.trans e02) b o hb) (ne_of_none hb hL)
/-- what walk gives: (value, (s, e), (s', e')) -/
def WkAt (H : Hp) (t : Addr) : Prop := ∃ v m n s e s' e', H t = some (.tup [.int v, .ref m, .ref n]) ∧ RowAt H m [s, e] ∧ RowAt H n [s', e'] ∧ 0 ≤ s ∧ s ≤ e ∧ e ≤ 100 ∧ 0 ≤ s' ∧ s' ≤ e' ∧ e' ≤ 100
theorem wk_same {H H' : Hp} {t : Addr} (h : WkAt H t) (e : Same H H') : WkAt H' t := by
  obtain ⟨v, m, n, s, e1, s', e', h1, h2, h3, r⟩ := h
  exact ⟨v, m, n, s, e1, s', e', e _ _ h1, e _ _ h2, e _ _ h3, r⟩
theorem tup_upd {H : Hp} {L t : Addr} {acc acc' : List V} {xs : List V} (h : H t = some (.tup xs)) (hL : H L = some (.lst acc)) : upd H L (.lst acc') t = some (.tup xs) := by
  rw [upd_ne (fun e => by rw [e, hL] at h; exact nomatch h)]
  exact h
theorem wk_keep {H : Hp} {L t : Addr} {acc acc' : List V} (h : WkAt H t) (hL : H L = some (.lst acc)) : WkAt (upd H L (.lst acc')) t := by
  obtain ⟨v, m, n, s, e1, s', e', h1, h2, h3, r⟩ := h
  exact ⟨v, m, n, s, e1, s', e', tup_upd h1 hL, tup_upd h2 hL, tup_upd h3 hL, r⟩
def spWk (a : Ad) : Sp := fun vs H Q E => ∃ v u R w R' w', vs = [v, u] ∧ Tb a.CT H v R ∧ Shp R w ∧ Tb a.CT H u R' ∧ Shp R' w' ∧ ∀ r H' (ts : List Addr), Same H H' → H r = none → H' r = some (.lst (ts.map V.ref)) → (∀ t ∈ ts, WkAt H' t) → ts.length ≤ 10 → Q (.ref r) H'
abbrev N_walk : List Str := ["one", "other", "mine", "theirs", "found", "at", "spot"]
theorem ok_walk (D : Def K mg "walk" 53) (T : Txt K mg a) (M : TabM P w K mg base a.CT) (c_edges_in : CalX P w K mg base 5 "edges_in" (spEd a)) : CalX P w K mg base 6 "walk" (spWk a) := by
  refine calx (N := N_walk) (ps := ["one", "other"]) D (by decide +kernel) (fun vs H Q E h => ?_) (fun _ _ _ _ _ _ us hl => match us, hl with | [_, _], _ => rfl) (fun f cdv A outer s H vs Q E hr nd tk pn h => ⟨_, (pss_cons (ps_par3 (i := 2) (j := 3) (l := 4) rfl nd rfl rfl rfl (by decide) (by decide) (by decide) rfl rfl rfl (pa_cons (pe_cx c_edges_in hr (by decide) tk (pa_cons (pv 0) pa_nil)) (pa_cons (pe_cx c_edges_in hr (by decide) tk (pa_cons (pv 1) pa_nil)) (pa_cons (pe_lst pa_nil) pa_nil))) (by rfl))
      (pss_cons (ps_asg (pe_tup (pa_cons pe_int (pa_cons pe_int pa_nil))) (pg_tupK (K := K) (n := 2) rfl rfl (pgs_cons (pg_name (i := 5) nd rfl (Or.inl rfl)) (pgs_cons (pg_name (i := 6) nd rfl (Or.inl rfl)) pgs_nil))))
      (pss_cons (ps_while pn (PW.pt (pw_and (pt_cmpR op_lt (pv 5) (pe_callB (call_lenK (K := K) rfl M hr (by decide)) (by rfl) T.len bi_len (pa_cons (pv 2) pa_nil)) (nomark _)) (pw_and1 (pt_cmpR op_lt (pv 6) (pe_callB (call_lenK (K := K) rfl M hr (by decide)) (by rfl) T.len bi_len (pa_cons (pv 3) pa_nil)) (nomark _)))))
      (pss_one (ps_if (pt_cmpR op_eq (pe_ix (ixK (K := K) rfl) (pe_ix (ixK (K := K) rfl) (pv 2) (pv 5) (fun _ _ => rfl)) pe_int (fun _ _ => rfl)) (pe_ix (ixK (K := K) rfl) (pe_ix (ixK (K := K) rfl) (pv 3) (pv 6) (fun _ _ => rfl)) pe_int (fun _ _ => rfl)) (nomark _))
      (pss_cons (ps_expr (pe_bm PySem.F.plainAttrs_list PySem.F.slot_list_append PySem.F.type_list_append mt_append (pv 4) (pa_cons (pe_tup (pa_cons (pe_ix (ixK (K := K) rfl) (pe_ix (ixK (K := K) rfl) (pv 2) (pv 5) (fun _ _ => rfl)) pe_int (fun _ _ => rfl)) (pa_cons (pe_slice sl_tupQ (pe_ix (ixK (K := K) rfl) (pv 2) (pv 5) (fun _ _ => rfl)) (po_some pe_int) po_none) (pa_cons (pe_slice sl_tupQ (pe_ix (ixK (K := K) rfl) (pv 3) (pv 6) (fun _ _ => rfl)) (po_some pe_int) po_none) pa_nil)))) pa_nil)))
      (pss_one (ps_par (i := 5) (j := 6) rfl nd rfl rfl (by decide) rfl rfl (pa_cons (pe_op op_add (pv 5) pe_int) (pa_cons (pe_op op_add (pv 6) pe_int) pa_nil)) (by rfl))))
      (pss_one (ps_if (pt_cmpR op_lt (pe_ix (ixK (K := K) rfl) (pe_ix (ixK (K := K) rfl) (pv 2) (pv 5) (fun _ _ => rfl)) pe_int (fun _ _ => rfl)) (pe_ix (ixK (K := K) rfl) (pe_ix (ixK (K := K) rfl) (pv 3) (pv 6) (fun _ _ => rfl)) pe_int (fun _ _ => rfl)) (nomark _))
      (pss_one (ps_aug (i := 5) nd rfl (Or.inl rfl) pe_int ip_add))
      (pss_one (ps_aug (i := 6) nd rfl (Or.inl rfl) pe_int ip_add)))))))
      (pss_one (ps_ret (pv 4)))))), ?_⟩)
  · obtain ⟨_, _, _, _, _, _, rfl, _⟩ := h
    rfl
  · obtain ⟨v, u, R, w, R', w', rfl, t, S, t', S', q⟩ := h
    clear tk pn nd hr
    walk_at "r1"
    simp only [spEd]
    walk_at "ex"
    refine ⟨R, t, w, S, fun r1 H1 ts1 E1 e1 _ hr1 hp1 hE1 hl1 => ⟨R', t'.same e1, w', S', fun r2 H2 ts2 E2 e2 _ hr2 hp2 hE2 hl2 => ⟨by decide, fun L hL => ⟨by decide, fun p hp => un2s upd_same ?_⟩⟩⟩⟩
    have e3 : Same H2 (upd (upd H2 L (.lst [])) p (.tup [.int 0, .int 0])) := same_up (same_new (Same.refl _) hL) hp
    have hf : upd (upd H2 L (.lst [])) p (.tup [.int 0, .int 0]) L = some (.lst []) := upd_lst upd_same hp
    have n1 : r1 ≠ L := ne_of_none (e2 _ _ hr1) hL
    have n2 : r2 ≠ L := ne_of_none hr2 hL
    generalize upd (upd H2 L (.lst [])) p (.tup [.int 0, .int 0]) = H3 at e3 hf ⊢
    have hr1' := (e2.trans e3) _ _ hr1
    have hr2' := e3 _ _ hr2
    have hp1' := rows_same hp1 (e2.trans e3)
    have hp2' := rows_same hp2 e3
    have z1 := hp1.length
    have z2 := hp2.length
    walk_at "lp"
    refine ⟨fun m σ H' => (∀ b o, H3 b = some o → b ≠ L → H' b = some o) ∧ ∃ (i j : Nat) (ws : List Addr), σ = [some v, some u, some (.ref r1), some (.ref r2), some (.ref L), some (.int i), some (.int j)] ∧ H' L = some (.lst (ws.map V.ref)) ∧ (∀ t ∈ ws, WkAt H' t) ∧ i ≤ E1.length ∧ j ≤ E2.length ∧ ws.length ≤ i ∧ m = (E1.length - i) + (E2.length - j),
      ⟨_, fun b o h _ => h, 0, 0, [], rfl, hf, (fun _ h => nomatch h), Nat.zero_le _, Nat.zero_le _, Nat.le_refl _, rfl⟩, ?_⟩
    rintro m σ H4 ⟨e4, i, j, ws, rfl, hf4, hw, hi, hj, hwl, hm⟩
    walk_at "r1"
    have r1' := e4 _ _ hr1' n1
    have r2' := e4 _ _ hr2' n2
    have fin : Q (.ref L) H4 := q L H4 ws (fun b o hb => e4 b o ((e1.trans (e2.trans e3)) b o hb) (ne_of_none ((e1.trans e2) _ _ hb) hL)) ((e1.trans e2).free hL) hf4 hw (by omega)
    refine len_l r1' ⟨_, rfl, ?_⟩
    rw [List.length_map, z1]
    by_cases hi2 : i < E1.length
    · rw [if_pos (by simpa using hi2)]
      refine len_l r2' ⟨_, rfl, ?_⟩
      rw [List.length_map, z2]
      by_cases hj2 : j < E2.length
      · rw [if_pos (by simpa using hj2)]
        refine ⟨_, fun _ _ h => h, ?_⟩
        obtain ⟨a1, ga, ga2, ra⟩ := rowAt hp1' hi2
        obtain ⟨b1, gb, gb2, rb⟩ := rowAt hp2' hj2
        obtain ⟨va, sa, ea, ha, oa1, oa2, oa3⟩ := hE1 _ (getD_mem (d := []) hi2)
        obtain ⟨vb, sb, eb, hb, ob1, ob2, ob3⟩ := hE2 _ (getD_mem (d := []) hj2)
        rw [ha] at ra
        rw [hb] at rb
        have ra' : H4 a1 = some (.tup [.int va, .int sa, .int ea]) := e4 _ _ ra (fun z => by
          have g5 : H3 a1 = some (.tup [.int va, .int sa, .int ea]) := ra
          rw [z, hf] at g5
          exact nomatch g5)
        have rb' : H4 b1 = some (.tup [.int vb, .int sb, .int eb]) := e4 _ _ rb (fun z => by
          have g5 : H3 b1 = some (.tup [.int vb, .int sb, .int eb]) := rb
          rw [z, hf] at g5
          exact nomatch g5)
        have A0 := atI_nat ga2
        have B0 := atI_nat gb2
        refine ix_l r1' A0 (ix_t ra' (atI_nat (k := 0) rfl) (ix_l r2' B0 (ix_t rb' (atI_nat (k := 0) rfl) ⟨rfl, _, rfl, ?_⟩)))
        split
        · refine ⟨tyL hf4, ix_l r1' A0 (ix_t ra' (atI_nat (k := 0) rfl) (ix_l r1' A0 ⟨_, rfl, _, ra', fun p1 H5 e5 hp5 => ?_⟩))⟩
          refine ix_l (e5 _ _ r2') B0 ⟨_, rfl, _, e5 _ _ rb', fun p2 H6 e6 hp6 => ⟨by decide, fun p3 hp3 => ⟨_, upd_lst ((e5.trans e6) _ _ hf4) hp3, small (by simp; omega), ?_⟩⟩⟩
          have hp5' : H6 p1 = some (.tup [.int sa, .int ea]) := e6 _ _ hp5
          have hp6' : H6 p2 = some (.tup [.int sb, .int eb]) := hp6
          have hf6 := (e5.trans e6) _ _ hf4
          have hnew : WkAt (upd H6 p3 (.tup [.int va, .ref p1, .ref p2])) p3 := ⟨va, p1, p2, sa, ea, sb, eb, upd_same, (same_up (Same.refl _) hp3) _ _ hp5', (same_up (Same.refl _) hp3) _ _ hp6', oa1, oa2, oa3, ob1, ob2, ob3⟩
          refine ⟨_, _, ⟨rfl, rfl⟩, _, ?_, ?_, i + 1, j + 1, rfl, ws ++ [p3], by rw [upd_same, List.map_append]; rfl, ?_, by omega, by omega, by simp; omega, rfl⟩
          · omega
          · intro b o hb hne
            rw [upd_ne hne]
            exact same_up ((e5.trans e6)) hp3 b o (e4 b o hb hne)
          · intro t ht
            refine wk_keep ?_ (upd_lst hf6 hp3)
            rcases List.mem_append.mp ht with h | h
            · exact wk_same (hw t h) (same_up (e5.trans e6) hp3)
            · rw [List.mem_singleton.mp h]
              exact hnew
        · refine ix_l r1' A0 (ix_t ra' (atI_nat (k := 0) rfl) (ix_l r2' B0 (ix_t rb' (atI_nat (k := 0) rfl) ⟨_, rfl, _, rfl, ?_⟩)))
          split
          · exact ⟨_, by omega, e4, i + 1, j, rfl, ws, hf4, hw, by omega, by omega, by omega, rfl⟩
          · exact ⟨_, by omega, e4, i, j + 1, rfl, ws, hf4, hw, by omega, by omega, by omega, rfl⟩
      · rw [if_neg (by simpa using hj2)]
        exact fin
    · rw [if_neg (by simpa using hi2)]
      exact fin
end
end G


set_option Elab.async false
set_option linter.all false
set_option maxRecDepth 100000
set_option maxHeartbeats 4000000
set_option pp.deepTerms true
set_option pp.maxSteps 100000
set_option format.width 230
namespace G
open PySem PySem.Spec PyProof.Rows L2
local macro_rules | `(tactic| walk_at "rd") => `(tactic| simp only [cxOf_K, tSeq, tIfS, tTest, tB, tCB, tCons, tNil, tC, tVar, tOp, tUn, tAndV, tOrV, tNotV, tAnd, tOr, tNot, tIf, tChain, tRet, tRetN, tAsg, gName, tDrop, tNext, tCallS, WE, rI0, rI, rU, L2.start, tYes, tLc, tFor, gTup, gCons, gNil, tPar, tPar3, tAug, ipI, tWidth, tCall, tMeth, tMake, tFld, tRows, tTable, sFld, rMulT, rSumT, gSub, tBM, rAppend, rSetL, rExtend, rSlL, rSlQ, tCol, Int.toNat_natCast,  tSl, tNoPart, tPart, tTup, tLst, tNever, itu_g, sDPut, tDNewK,
  List.map_cons, List.map_nil, List.length_cons, List.length_nil, List.cons_append, List.nil_append, List.replicate, Nat.reduceAdd, Nat.reduceSub, Nat.zero_add, Nat.sub_self,
  List.getElem?_cons_zero, List.getElem?_cons_succ, List.set_cons_zero, List.set_cons_succ, wipe, Option.some.injEq, exists_eq_left', exists_eq_left, V.bl.injEq, V.int.injEq, ref_inj, ty_inj, if_true, if_false, Bool.false_eq_true, Bool.true_eq_false, exists_const, exists_and_left, true_and, and_true, List.cons.injEq,
  isB_int, isB_bool, isB_tuple, isB_list, isT_at, iSq, iRg1, iRg2, iZ2, iZ3, iEn])
local macro_rules | `(tactic| walk_at "r1") => `(tactic| simp only [cxOf_K, tSeq, tIfS, tTest, tB, tCB, tCons, tNil, tC, tVar, tOp, tUn, tAndV, tOrV, tNotV, tAnd, tOr, tNot, tIf, tChain, tRet, tRetN, tAsg, gName, tDrop, tNext, tCallS, WE, rI0, rI, rU, L2.start, tYes, gTup, gCons, gNil, tPar, tPar3, tAug, ipI, tWidth, tCall, tMeth, tMake, tFld, tRows, tTable, sFld, rMulT, rSumT, gSub, tBM, rAppend, rSetL, rExtend, rSlL, rSlQ, tCol, Int.toNat_natCast,  tSl, tNoPart, tPart, tTup, tLst, tNever, itu_g, sDPut, tDNewK,
  List.map_cons, List.map_nil, List.length_cons, List.length_nil, List.cons_append, List.nil_append, List.replicate, Nat.reduceAdd, Nat.reduceSub, Nat.zero_add, Nat.sub_self,
  List.getElem?_cons_zero, List.getElem?_cons_succ, List.set_cons_zero, List.set_cons_succ, wipe, Option.some.injEq, exists_eq_left', exists_eq_left, V.bl.injEq, V.int.injEq, ref_inj, ty_inj, if_true, if_false, Bool.false_eq_true, Bool.true_eq_false, exists_const, exists_and_left, true_and, and_true, List.cons.injEq,
  isB_int, isB_bool, isB_tuple, isB_list, isT_at, iSq, iRg1, iRg2, iZ2, iZ3, iEn])
local macro_rules | `(tactic| walk_at "lp") => `(tactic| first | rw [tFor_def] | rw [tLc_def] | rw [tWhile_def])
local macro_rules | `(tactic| walk_at "ex") => `(tactic| simp only [List.cons.injEq, and_true, true_and, and_assoc, exists_and_left, exists_eq_left', exists_eq_left, exists_eq_right, exists_const, V.int.injEq, V.bl.injEq, ref_inj, Bool.not_true, Bool.not_false, Bool.false_eq_true, if_true, if_false, Bool.true_eq_false])
section
variable {P : Program} {w : World} {K : PySem.W.Frag} {mg : Str → Option Value} {base : Heap} {a : Ad}
/-- what the joins need: both tables, both sorted -/
def PreJ (a : Ad) (H : Hp) (E : XK) (v u : V) (ok : List (List Int) → Nat → List (List Int) → Nat → Prop) : Prop := Tg a.CT H v ∧ Tg a.CT H u ∧ (isT a.CT H v = false → Rz E H a.cBT) ∧ (isT a.CT H v = true → isT a.CT H u = false → Rz E H a.cBT) ∧
  (isT a.CT H v = true → isT a.CT H u = true → ∃ R w R' w', Tb a.CT H v R ∧ Shp R w ∧ Tb a.CT H u R' ∧ Shp R' w' ∧ ((srtB R && srtB R') = false → Rz E H a.cBO) ∧ ((srtB R && srtB R') = true → ok R w R' w'))
theorem preJ_cs {a : Ad} {H : Hp} {E : XK} {v u : V} {ok : List (List Int) → Nat → List (List Int) → Nat → Prop} {Q : VK} (p : PreJ a H E v u ok) (k : ∀ R w R' w', Tb a.CT H v R → Shp R w → Tb a.CT H u R' → Shp R' w' → ok R w R' w' → ∀ H', Same H H' → Q .non H') : spCS a [v, u] H Q E := by
  obtain ⟨gv, gu, no, no2, yes⟩ := p
  refine ⟨v, u, rfl, gv, gu, no, no2, fun h1 h2 => ?_⟩
  obtain ⟨R, w, R', w', t, S, t', S', q1, q2⟩ := yes h1 h2
  exact ⟨R, w, R', w', t, S, t', S', q1, fun h H' e => k R w R' w' t S t' S' (q2 h) H' e⟩
def spJ (a : Ad) : Sp := fun vs H Q E => ∃ v u, vs = [v, u] ∧ PreJ a H E v u fun _ _ _ _ => ∀ z H', Same H H' → Q z H'
theorem spWk_at {a : Ad} {v u : V} {H : Hp} {Q : VK} {E : XK} {R R' : List (List Int)} {w w' : Nat} (t : Tb a.CT H v R) (S : Shp R w) (t' : Tb a.CT H u R') (S' : Shp R' w')
    (q : ∀ r H' (ts : List Addr), Same H H' → H r = none → H' r = some (.lst (ts.map V.ref)) → (∀ t ∈ ts, WkAt H' t) → ts.length ≤ 10 → Q (.ref r) H') : spWk a [v, u] H Q E := ⟨v, u, R, w, R', w', rfl, t, S, t', S', q⟩
theorem wk_at {H : Hp} {ts : List Addr} (h : ∀ t ∈ ts, WkAt H t) {i : Nat} (hi : i < ts.length) : ∃ t, (ts.map V.ref).getD i .non = .ref t ∧ WkAt H t := by
  refine ⟨ts[i], ?_, h _ (List.getElem_mem hi)⟩
  rw [List.getD_eq_getElem?_getD, List.getElem?_map, List.getElem?_eq_getElem hi]
  rfl
theorem flat_ints : ∀ ns : List Int, (ns.map V.int).all flatV = true
  | [] => rfl
  | _ :: ns => by
    show (true && (ns.map V.int).all flatV) = true
    rw [flat_ints ns]
    rfl
theorem putK_le {κ : Type} [DecidableEq κ] (c : List (κ × V)) (k : κ) (x : V) : (putK c k x).length ≤ c.length + 1 := by
  unfold putK
  split
  · rw [List.length_map]; omega
  · rw [List.length_append]; simp
abbrev N_join_count : List Str := ["one", "other", "value", "mine", "theirs"]
theorem ok_join_count (D : Def K mg "join_count" 55) (T : Txt K mg a) (c_check_sorted : CalX P w K mg base 5 "check_sorted" (spCS a)) (c_walk : CalX P w K mg base 6 "walk" (spWk a)) : CalX P w K mg base 7 "join_count" (spJ a) := by
  refine calx (N := N_join_count) (ps := ["one", "other"]) D (by decide +kernel) (fun vs H Q E h => ?_) (fun _ _ _ _ _ _ us hl => match us, hl with | [_, _], _ => rfl) (fun f cdv A outer s H vs Q E hr nd tk pn h => ⟨_, (pss_cons (ps_expr (pe_cx c_check_sorted hr (by decide) tk (pa_cons (pv 0) (pa_cons (pv 1) pa_nil))))
      (pss_one (ps_ret (pe_callB (crK_sum (K := K) rfl rfl) (by rfl) T.sum bi_sum (pa_cons (pe_lc (own := [("value", 2), ("mine", 3), ("theirs", 4)]) rfl nd (pi_sq (pe_cx c_walk hr (by decide) tk (pa_cons (pv 0) (pa_cons (pv 1) pa_nil)))) (blkOk_by (own := [("value", 2), ("mine", 3), ("theirs", 4)]) (N := N_join_count) (sc := defScope (top 55)) (by decide +kernel)) (fun _ _ _ _ _ => (pg_tupK (K := K) (n := 3) rfl rfl (pgs_cons (pg_name (i := 2) nd rfl (Or.inl rfl)) (pgs_cons (pg_name (i := 3) nd rfl (Or.inl rfl)) (pgs_cons (pg_name (i := 4) nd rfl (Or.inl rfl)) pgs_nil))))) (fun _ _ _ _ _ => pts_nil) (fun _ _ _ _ _ => (pe_op op_mul (pe_op op_sub (pe_ix (ixK (K := K) rfl) (pv 3) pe_int (fun _ _ => rfl)) (pe_ix (ixK (K := K) rfl) (pv 3) pe_int (fun _ _ => rfl))) (pe_op op_sub (pe_ix (ixK (K := K) rfl) (pv 4) pe_int (fun _ _ => rfl)) (pe_ix (ixK (K := K) rfl) (pv 4) pe_int (fun _ _ => rfl)))))) pa_nil))))), ?_⟩)
  · obtain ⟨_, _, rfl, _⟩ := h
    rfl
  · obtain ⟨v, u, rfl, pj⟩ := h
    clear tk pn nd hr
    walk_at "r1"
    refine preJ_cs pj fun R w R' w' t S t' S' q H1 e1 => ?_
    walk_at "lp"
    walk_at "r1"
    refine spWk_at (t.same e1) S (t'.same e1) S' fun r H2 ts e2 _ hr hw hl => ⟨r, rfl, true, _, sqA_l hr, fun L hL => ?_⟩
    refine lcF (fun _ => true) (fun _ v _ => ∃ z, v = .int z) hL (by simp; omega) (fun _ _ _ _ _ _ h => h) (fun _ _ _ _ h _ => h) (fun H' e => sqA_l (e _ _ hr)) (fun j v H3 H4 acc Nx hj e3 ha y k1 _ => ?_) (fun H' acc e h hp => ?_)
    · simp only [yV] at y
      obtain ⟨rfl, rfl⟩ := y
      rw [List.length_map] at hj
      obtain ⟨t0, g0, W⟩ := wk_at hw hj
      obtain ⟨va, m, n, s1, e1', s2, e2', h1, h2, h3, b1, b2, b3, b4, b5, b6⟩ := wk_same W e3
      rw [g0]
      refine un3 h1 ?_
      exact ix_t h2 (atI_nat (k := 1) rfl) (ix_t h2 (atI_nat (k := 0) rfl) ⟨_, rfl, _, rfl, ix_t h3 (atI_nat (k := 1) rfl) (ix_t h3 (atI_nat (k := 0) rfl) ⟨_, rfl, _, rfl, smul (by omega) (by omega), k1 rfl _ _ (Same.refl _) ⟨_, rfl⟩⟩)⟩)
    · obtain ⟨ns, rfl, hns⟩ := ints_acc hp
      exact sum_l h (q _ _ ((e1.trans e2).trans e))
abbrev N_join_runs : List Str := ["one", "other", "value", "mine", "theirs"]
theorem ok_join_runs (D : Def K mg "join_runs" 57) (T : Txt K mg a) (c_check_sorted : CalX P w K mg base 5 "check_sorted" (spCS a)) (c_walk : CalX P w K mg base 6 "walk" (spWk a)) : CalX P w K mg base 7 "join_runs" (spJ a) := by
  refine calx (N := N_join_runs) (ps := ["one", "other"]) D (by decide +kernel) (fun vs H Q E h => ?_) (fun _ _ _ _ _ _ us hl => match us, hl with | [_, _], _ => rfl) (fun f cdv A outer s H vs Q E hr nd tk pn h => ⟨_, (pss_cons (ps_expr (pe_cx c_check_sorted hr (by decide) tk (pa_cons (pv 0) (pa_cons (pv 1) pa_nil))))
      (pss_one (ps_ret (pe_lc (own := [("value", 2), ("mine", 3), ("theirs", 4)]) rfl nd (pi_sq (pe_cx c_walk hr (by decide) tk (pa_cons (pv 0) (pa_cons (pv 1) pa_nil)))) (blkOk_by (own := [("value", 2), ("mine", 3), ("theirs", 4)]) (N := N_join_runs) (sc := defScope (top 57)) (by decide +kernel)) (fun _ _ _ _ _ => (pg_tupK (K := K) (n := 3) rfl rfl (pgs_cons (pg_name (i := 2) nd rfl (Or.inl rfl)) (pgs_cons (pg_name (i := 3) nd rfl (Or.inl rfl)) (pgs_cons (pg_name (i := 4) nd rfl (Or.inl rfl)) pgs_nil))))) (fun _ _ _ _ _ => pts_nil) (fun _ _ _ _ _ => (pe_tup (pa_cons (pv 2) (pa_cons (pe_op op_mul (pe_op op_sub (pe_ix (ixK (K := K) rfl) (pv 3) pe_int (fun _ _ => rfl)) (pe_ix (ixK (K := K) rfl) (pv 3) pe_int (fun _ _ => rfl))) (pe_op op_sub (pe_ix (ixK (K := K) rfl) (pv 4) pe_int (fun _ _ => rfl)) (pe_ix (ixK (K := K) rfl) (pv 4) pe_int (fun _ _ => rfl)))) pa_nil)))))))), ?_⟩)
  · obtain ⟨_, _, rfl, _⟩ := h
    rfl
  · obtain ⟨v, u, rfl, pj⟩ := h
    clear tk pn nd hr
    walk_at "r1"
    refine preJ_cs pj fun R w R' w' t S t' S' q H1 e1 => ?_
    walk_at "lp"
    walk_at "r1"
    refine spWk_at (t.same e1) S (t'.same e1) S' fun r H2 ts e2 _ hr hw hl => ⟨r, rfl, true, _, sqA_l hr, fun L hL => ?_⟩
    refine lcF (fun _ => true) (fun _ v _ => True) hL (by simp; omega) (fun _ _ _ _ _ _ h => h) (fun _ _ _ _ h _ => h) (fun H' e => sqA_l (e _ _ hr)) (fun j v H3 H4 acc Nx hj e3 ha y k1 _ => ?_) (fun H' acc e h hp => ?_)
    · simp only [yV] at y
      obtain ⟨rfl, rfl⟩ := y
      rw [List.length_map] at hj
      obtain ⟨t0, g0, W⟩ := wk_at hw hj
      obtain ⟨va, m, n, s1, e1', s2, e2', h1, h2, h3, b1, b2, b3, b4, b5, b6⟩ := wk_same W e3
      rw [g0]
      refine un3 h1 ?_
      exact ix_t h2 (atI_nat (k := 1) rfl) (ix_t h2 (atI_nat (k := 0) rfl) ⟨_, rfl, _, rfl, ix_t h3 (atI_nat (k := 1) rfl) (ix_t h3 (atI_nat (k := 0) rfl) ⟨_, rfl, _, rfl, smul (by omega) (by omega), by decide, fun p hp => k1 rfl _ _ (same_new (Same.refl _) hp) trivial⟩)⟩)
    · exact q _ _ ((e1.trans e2).trans e)
abbrev N_lonely : List Str := ["one", "other", "common", "value", "mine", "theirs", "index", "row"]
theorem ok_lonely (D : Def K mg "lonely" 60) (T : Txt K mg a) (c_check_sorted : CalX P w K mg base 5 "check_sorted" (spCS a)) (c_walk : CalX P w K mg base 6 "walk" (spWk a)) : CalX P w K mg base 7 "lonely" (spJ a) := by
  refine calx (N := N_lonely) (ps := ["one", "other"]) D (by decide +kernel) (fun vs H Q E h => ?_) (fun _ _ _ _ _ _ us hl => match us, hl with | [_, _], _ => rfl) (fun f cdv A outer s H vs Q E hr nd tk pn h => ⟨_, (pss_cons (ps_expr (pe_cx c_check_sorted hr (by decide) tk (pa_cons (pv 0) (pa_cons (pv 1) pa_nil))))
      (pss_cons (ps_set (i := 2) nd rfl (Or.inr rfl) (pe_lc (own := [("value", 3), ("mine", 4), ("theirs", 5)]) rfl nd (pi_sq (pe_cx c_walk hr (by decide) tk (pa_cons (pv 0) (pa_cons (pv 1) pa_nil)))) (blkOk_by (own := [("value", 3), ("mine", 4), ("theirs", 5)]) (N := N_lonely) (sc := defScope (top 60)) (by decide +kernel)) (fun _ _ _ _ _ => (pg_tupK (K := K) (n := 3) rfl rfl (pgs_cons (pg_name (i := 3) nd rfl (Or.inl rfl)) (pgs_cons (pg_name (i := 4) nd rfl (Or.inl rfl)) (pgs_cons (pg_name (i := 5) nd rfl (Or.inl rfl)) pgs_nil))))) (fun _ _ _ _ _ => pts_nil) (fun _ _ _ _ _ => (pv 3))))
      (pss_one (ps_ret (pe_lc (own := [("index", 6), ("row", 7)]) rfl nd (pi_en (by rfl) T.enumerate (pa_cons (pe_rows T.k.cl T.nR (pv 0)) pa_nil)) (blkOk_by (own := [("index", 6), ("row", 7)]) (N := N_lonely) (sc := defScope (top 60)) (by decide +kernel)) (fun _ _ _ _ _ => (pg_tupK (K := K) (n := 2) rfl rfl (pgs_cons (pg_name (i := 6) nd rfl (Or.inl rfl)) (pgs_cons (pg_name (i := 7) nd rfl (Or.inl rfl)) pgs_nil)))) (fun _ _ _ _ _ => (pts_one (pt_cmpR (notInK (K := K) rfl) (pe_ix (ixK (K := K) rfl) (pv 7) pe_int (fun _ _ => rfl)) (pv 2) rfl))) (fun _ _ _ _ _ => (pv 6))))))), ?_⟩)
  · obtain ⟨_, _, rfl, _⟩ := h
    rfl
  · obtain ⟨v, u, rfl, pj⟩ := h
    clear tk pn nd hr
    walk_at "r1"
    refine preJ_cs pj fun R w R' w' t S t' S' q H1 e1 => ?_
    walk_at "lp"
    walk_at "r1"
    refine spWk_at (t.same e1) S (t'.same e1) S' fun r H2 ts e2 _ hr hw hl => ⟨r, rfl, true, _, sqA_l hr, fun L hL => ?_⟩
    refine lcF (fun _ => true) (fun _ v _ => ∃ z, v = .int z) hL (by simp; omega) (fun _ _ _ _ _ _ h => h) (fun _ _ _ _ h _ => h) (fun H' e => sqA_l (e _ _ hr)) (fun j v H3 H4 acc Nx hj e3 ha y k1 _ => ?_) (fun H' acc e h hp => ?_)
    · simp only [yV] at y
      obtain ⟨rfl, rfl⟩ := y
      rw [List.length_map] at hj
      obtain ⟨t0, g0, W⟩ := wk_at hw hj
      obtain ⟨va, m, n, s1, e1', s2, e2', h1, h2, h3, b1, b2, b3, b4, b5, b6⟩ := wk_same W e3
      rw [g0]
      refine un3 h1 ?_
      exact k1 rfl _ _ (Same.refl _) ⟨_, rfl⟩
    · obtain ⟨ns, rfl, hns⟩ := ints_acc hp
      walk_at "lp"
      walk_at "r1"
      have t1 := t.same ((e1.trans e2).trans e)
      have Sle := S.le
      refine ⟨R, t1, fun r0 ts0 f1 f2 => ⟨false, _, sqA_t f1, fun L2 hL2 => ?_⟩⟩
      have z0 := f2.length
      refine lcF (fun i => !inV (.int ((R.getD i []).getD 0 0)) (ns.map V.int)) (fun _ v _ => ∃ z, v = .int z) hL2 (by simp; omega) (fun _ _ _ _ _ _ h => h) (fun _ _ _ _ h _ => h) (fun H' e => sqA_t (e _ _ f1)) (fun j v H3 H4 acc Nx hj e3 ha y k1 k2 => ?_) (fun H5 acc e5 h5 hp5 => q _ _ (((e1.trans e2).trans e).trans e5))
      simp only [yT] at y
      obtain ⟨T0, rfl, hT0, rfl⟩ := y
      rw [List.length_map] at hj
      obtain ⟨r3, g1, _, g3⟩ := rowAt f2 (i := j) (by omega)
      refine un2 upd_same ?_
      rw [g1]
      have e4 := fun o => same_up (o := o) e3 hT0
      have e4' := fun o => same_up (o := o) (Same.refl H3) hT0
      have hw0 := row_of S (i := j) (by omega)
      have w1 := S.w1
      refine ix_t (e4 _ _ _ g3) (atI_ints (i := 0) (by omega)) ⟨L, _, rfl, .inl (SqL.of (e4 _ _ _ h)), rfl, flat_ints ns, _, rfl, ?_⟩
      simp only [if_true]
      split
      · next hb => exact k1 hb _ _ (e4' _) ⟨_, rfl⟩
      · next hb => exact k2 (by simpa using hb) _ (e4' _)
abbrev N_join_looks : List Str := ["one", "other", "mine", "theirs", "found", "at", "spot"]
theorem ok_join_looks (D : Def K mg "join_looks" 59) (T : Txt K mg a) (M : TabM P w K mg base a.CT) (c_check_sorted : CalX P w K mg base 5 "check_sorted" (spCS a)) (c_edges_in : CalX P w K mg base 5 "edges_in" (spEd a)) : CalX P w K mg base 6 "join_looks" (spJ a) := by
  refine calx (N := N_join_looks) (ps := ["one", "other"]) D (by decide +kernel) (fun vs H Q E h => ?_) (fun _ _ _ _ _ _ us hl => match us, hl with | [_, _], _ => rfl) (fun f cdv A outer s H vs Q E hr nd tk pn h => ⟨_, (pss_cons (ps_expr (pe_cx c_check_sorted hr (by decide) tk (pa_cons (pv 0) (pa_cons (pv 1) pa_nil))))
      (pss_cons (ps_par3 (i := 2) (j := 3) (l := 4) rfl nd rfl rfl rfl (by decide) (by decide) (by decide) rfl rfl rfl (pa_cons (pe_cx c_edges_in hr (by decide) tk (pa_cons (pv 0) pa_nil)) (pa_cons (pe_cx c_edges_in hr (by decide) tk (pa_cons (pv 1) pa_nil)) (pa_cons pe_int pa_nil))) (by rfl))
      (pss_cons (ps_asg (pe_tup (pa_cons pe_int (pa_cons pe_int pa_nil))) (pg_tupK (K := K) (n := 2) rfl rfl (pgs_cons (pg_name (i := 5) nd rfl (Or.inl rfl)) (pgs_cons (pg_name (i := 6) nd rfl (Or.inl rfl)) pgs_nil))))
      (pss_cons (ps_while pn (PW.pt (pw_and (pt_cmpR op_lt (pv 5) (pe_callB (call_lenK (K := K) rfl M hr (by decide)) (by rfl) T.len bi_len (pa_cons (pv 2) pa_nil)) (nomark _)) (pw_and1 (pt_cmpR op_lt (pv 6) (pe_callB (call_lenK (K := K) rfl M hr (by decide)) (by rfl) T.len bi_len (pa_cons (pv 3) pa_nil)) (nomark _)))))
      (pss_cons (ps_aug (i := 4) nd rfl (Or.inl rfl) pe_int ip_add)
      (pss_one (ps_par (i := 5) (j := 6) rfl nd rfl rfl (by decide) rfl rfl (pa_cons (pe_op op_add (pv 5) (pe_callTy crB_int (by rfl) T.int bi_int (pa_cons (pe_cmpR op_le (pe_ix (ixK (K := K) rfl) (pe_ix (ixK (K := K) rfl) (pv 2) (pv 5) (fun _ _ => rfl)) pe_int (fun _ _ => rfl)) (pe_ix (ixK (K := K) rfl) (pe_ix (ixK (K := K) rfl) (pv 3) (pv 6) (fun _ _ => rfl)) pe_int (fun _ _ => rfl)) (nomark _)) pa_nil))) (pa_cons (pe_op op_add (pv 6) (pe_callTy crB_int (by rfl) T.int bi_int (pa_cons (pe_cmpR op_le (pe_ix (ixK (K := K) rfl) (pe_ix (ixK (K := K) rfl) (pv 3) (pv 6) (fun _ _ => rfl)) pe_int (fun _ _ => rfl)) (pe_ix (ixK (K := K) rfl) (pe_ix (ixK (K := K) rfl) (pv 2) (pv 5) (fun _ _ => rfl)) pe_int (fun _ _ => rfl)) (nomark _)) pa_nil))) pa_nil)) (by rfl)))))
      (pss_one (ps_ret (pv 4))))))), ?_⟩)
  · obtain ⟨_, _, rfl, _⟩ := h
    rfl
  · obtain ⟨v, u, rfl, pj⟩ := h
    clear tk pn nd hr
    walk_at "r1"
    refine preJ_cs pj fun R w R' w' t S t' S' q H0 e0 => ?_
    simp only [spEd]
    walk_at "ex"
    refine ⟨R, t.same e0, w, S, fun r1 H1 ts1 E1 e1 _ hr1 hp1 hE1 hl1 => ⟨R', t'.same (e0.trans e1), w', S', fun r2 H2 ts2 E2 e2 _ hr2 hp2 hE2 hl2 => ⟨by decide, fun p hp => un2s upd_same ?_⟩⟩⟩
    have e3 : Same H2 (upd H2 p (.tup [.int 0, .int 0])) := same_new (Same.refl H2) hp
    generalize upd H2 p (.tup [.int 0, .int 0]) = H3 at e3 ⊢
    have hr1' := (e2.trans e3) _ _ hr1
    have hr2' := e3 _ _ hr2
    have hp1' := rows_same hp1 (e2.trans e3)
    have hp2' := rows_same hp2 e3
    have z1 := hp1.length
    have z2 := hp2.length
    walk_at "lp"
    refine ⟨fun m σ H' => Same H3 H' ∧ ∃ (i j : Nat) (z : Int), σ = [some v, some u, some (.ref r1), some (.ref r2), some (.int z), some (.int i), some (.int j)] ∧ i ≤ E1.length ∧ j ≤ E2.length ∧ m = (E1.length - i) + (E2.length - j),
      ⟨_, Same.refl _, 0, 0, 0, rfl, Nat.zero_le _, Nat.zero_le _, rfl⟩, ?_⟩
    rintro m σ H4 ⟨e4, i, j, z, rfl, hi, hj, hm⟩
    walk_at "r1"
    have r1' := e4 _ _ hr1'
    have r2' := e4 _ _ hr2'
    have fin : Q (.int z) H4 := q _ _ (((e0.trans e1).trans (e2.trans e3)).trans e4)
    refine len_l r1' ⟨_, rfl, ?_⟩
    rw [List.length_map, z1]
    by_cases hi2 : i < E1.length
    · rw [if_pos (by simpa using hi2)]
      refine len_l r2' ⟨_, rfl, ?_⟩
      rw [List.length_map, z2]
      by_cases hj2 : j < E2.length
      · rw [if_pos (by simpa using hj2)]
        refine ⟨_, fun _ _ h => h, ?_⟩
        obtain ⟨a1, ga, ga2, ra⟩ := rowAt hp1' hi2
        obtain ⟨b1, gb, gb2, rb⟩ := rowAt hp2' hj2
        obtain ⟨va, sa, ea, ha, oa1, oa2, oa3⟩ := hE1 _ (getD_mem (d := []) hi2)
        obtain ⟨vb, sb, eb, hb, ob1, ob2, ob3⟩ := hE2 _ (getD_mem (d := []) hj2)
        rw [ha] at ra
        rw [hb] at rb
        have ra' := e4 _ _ ra
        have rb' := e4 _ _ rb
        have A0 := atI_nat ga2
        have B0 := atI_nat gb2
        refine ix_l r1' A0 (ix_t ra' (atI_nat (k := 0) rfl) (ix_l r2' B0 (ix_t rb' (atI_nat (k := 0) rfl) ⟨_, rfl, _, rfl, ?_⟩)))
        refine ix_l r2' B0 (ix_t rb' (atI_nat (k := 0) rfl) (ix_l r1' A0 (ix_t ra' (atI_nat (k := 0) rfl) ⟨_, rfl, _, rfl, ?_⟩)))
        refine ⟨_, _, ⟨rfl, rfl⟩, ?_⟩
        simp only [decide_eq_true_eq]
        have e34 := e4
        rcases Int.lt_trichotomy va vb with h | h | h
        · rw [if_pos (by omega), if_neg (by omega)]
          exact ⟨_, by omega, e4, i + 1, j, z + 1, by simp, by omega, by omega, rfl⟩
        · rw [if_pos (by omega), if_pos (by omega)]
          exact ⟨_, by omega, e4, i + 1, j + 1, z + 1, by simp, by omega, by omega, rfl⟩
        · rw [if_neg (by omega), if_pos (by omega)]
          exact ⟨_, by omega, e4, i, j + 1, z + 1, by simp, by omega, by omega, rfl⟩
      · rw [if_neg (by simpa using hj2)]
        exact fin
    · rw [if_neg (by simpa using hi2)]
      exact fin
abbrev N_join_pairs : List Str := ["one", "other", "found", "value", "mine", "theirs", "index", "late"]
theorem ok_join_pairs (D : Def K mg "join_pairs" 56) (T : Txt K mg a) (c_check_sorted : CalX P w K mg base 5 "check_sorted" (spCS a)) (c_walk : CalX P w K mg base 6 "walk" (spWk a)) : CalX P w K mg base 7 "join_pairs" (spJ a) := by
  refine calx (N := N_join_pairs) (ps := ["one", "other"]) D (by decide +kernel) (fun vs H Q E h => ?_) (fun _ _ _ _ _ _ us hl => match us, hl with | [_, _], _ => rfl) (fun f cdv A outer s H vs Q E hr nd tk pn h => ⟨_, (pss_cons (ps_expr (pe_cx c_check_sorted hr (by decide) tk (pa_cons (pv 0) (pa_cons (pv 1) pa_nil))))
      (pss_cons (ps_set (i := 2) nd rfl (Or.inl rfl) (pe_lst pa_nil))
      (pss_cons (ps_for pn rfl (pi_sq (pe_cx c_walk hr (by decide) tk (pa_cons (pv 0) (pa_cons (pv 1) pa_nil)))) (pg_tupK (K := K) (n := 3) rfl rfl (pgs_cons (pg_name (i := 3) nd rfl (Or.inl rfl)) (pgs_cons (pg_name (i := 4) nd rfl (Or.inl rfl)) (pgs_cons (pg_name (i := 5) nd rfl (Or.inl rfl)) pgs_nil))))
      (pss_one (ps_for pn rfl (pi_rg2 (by rfl) T.range (pa_cons (pe_ix (ixK (K := K) rfl) (pv 4) pe_int (fun _ _ => rfl)) (pa_cons (pe_ix (ixK (K := K) rfl) (pv 4) pe_int (fun _ _ => rfl)) pa_nil))) (pg_name (i := 6) nd rfl (Or.inr rfl))
      (pss_one (ps_expr (pe_bm PySem.F.plainAttrs_list PySem.F.slot_list_extend PySem.F.type_list_extend mt_extend (pv 2) (pa_cons (pe_lc (own := [("late", 7)]) rfl nd (pi_rg2 (by rfl) T.range (pa_cons (pe_ix (ixK (K := K) rfl) (pv 5) pe_int (fun _ _ => rfl)) (pa_cons (pe_ix (ixK (K := K) rfl) (pv 5) pe_int (fun _ _ => rfl)) pa_nil))) (blkOk_by (own := [("late", 7)]) (N := N_join_pairs) (sc := defScope (top 56)) (by decide +kernel)) (fun _ _ _ _ _ => (pg_name (i := 7) nd rfl (Or.inl rfl))) (fun _ _ _ _ _ => pts_nil) (fun _ _ _ _ _ => (pe_tup (pa_cons (pv 6) (pa_cons (pv 7) pa_nil))))) pa_nil)))))))
      (pss_one (ps_ret (pv 2)))))), ?_⟩)
  · obtain ⟨_, _, rfl, _⟩ := h
    rfl
  · obtain ⟨v, u, rfl, pj⟩ := h
    clear tk pn nd hr
    walk_at "r1"
    refine preJ_cs pj fun R w R' w' t S t' S' q H1 e1 => ?_
    refine ⟨by decide, fun L hL => ?_⟩
    have e2 : Same H1 (upd H1 L (.lst [])) := same_new (Same.refl _) hL
    have hf : upd H1 L (.lst []) L = some (.lst []) := upd_same
    generalize upd H1 L (.lst []) = H2 at e2 hf ⊢
    walk_at "lp"
    walk_at "r1"
    have e02 := e1.trans e2
    refine spWk_at (t.same e02) S (t'.same e02) S' fun r H3 ts e3 hr0 hr hw hl => ⟨r, rfl, true, _, sqA_l hr, ?_⟩
    have nr : r ≠ L := fun z => by rw [z, hf] at hr0; exact nomatch hr0
    have hf3 := e3 _ _ hf
    refine forB (fun i σ H' => (∀ b o, H3 b = some o → b ≠ L → H' b = some o) ∧ ∃ v3 v4 v5 v6 v7 acc, σ = [some v, some u, some (.ref L), v3, v4, v5, v6, v7] ∧ H' L = some (.lst acc) ∧ acc.length ≤ 10000 * i)
      ⟨fun b o h _ => h, none, none, none, none, none, [], rfl, hf3, Nat.zero_le _⟩ (fun i σ H' _ h => sqA_l (h.1 _ _ hr nr)) ?_ ?_
    · rintro i x σ H4 H5 Nx hi ⟨e4, v3, v4, v5, v6, v7, acc, rfl, hf4, hal⟩ y nx
      simp only [yV] at y
      obtain ⟨rfl, rfl⟩ := y
      rw [List.length_map] at hi
      obtain ⟨t0, g0, va, m, n, s1, e1', s2, e2', h1, h2, h3, b1, b2, b3, b4, b5, b6⟩ := wk_at hw hi
      have keep : ∀ {t xs}, H3 t = some (.tup xs) → H5 t = some (.tup xs) := fun {t xs} h => e4 _ _ h fun z => by rw [z, hf3] at h; exact nomatch h
      rw [g0]
      refine un3 (keep h1) ?_
      walk_at "r1"
      walk_at "lp"
      walk_at "r1"
      have h2' := keep h2
      have h3' := keep h3
      refine ix_t h2' (atI_nat (k := 0) rfl) (ix_t h2' (atI_nat (k := 1) rfl) ⟨s1, e1', ⟨rfl, rfl⟩, ⟨by omega, by omega, by omega, by omega⟩, ?_⟩)
      refine forB (fun j σ H' => (∀ b o, H5 b = some o → b ≠ L → H' b = some o) ∧ ∃ v6 v7 acc', σ = [some v, some u, some (.ref L), some (.int va), some (.ref m), some (.ref n), v6, v7] ∧ H' L = some (.lst acc') ∧ acc'.length ≤ acc.length + 100 * j)
        ⟨fun b o h _ => h, v6, v7, acc, rfl, hf4, Nat.le_refl _⟩ (fun _ _ _ _ _ => trivial) ?_ ?_
      · rintro j x σ H6 H7 Nx2 hj ⟨e6, v6, v7, acc', rfl, hf6, hal6⟩ y nx2
        simp only [yV] at y
        obtain ⟨rfl, rfl⟩ := y
        walk_at "r1"
        refine ⟨tyL hf6, ?_⟩
        walk_at "lp"
        walk_at "r1"
        have nL : ∀ {t : Addr} {xs : List V}, H5 t = some (.tup xs) → t ≠ L := fun {t xs} h z => by rw [z, hf4] at h; exact nomatch h
        have h3'' := e6 _ _ h3' (nL h3')
        refine ix_t h3'' (atI_nat (k := 0) rfl) (ix_t h3'' (atI_nat (k := 1) rfl) ⟨s2, e2', ⟨rfl, rfl⟩, ⟨by omega, by omega, by omega, by omega⟩, fun L2 hL2 => ?_⟩)
        refine lcF (fun _ => true) (fun _ v _ => True) hL2 (by omega) (fun _ _ _ _ _ _ h => h) (fun _ _ _ _ h _ => h) (fun _ _ => trivial) (fun k v H8 H9 acc2 Nx3 hk e8 ha y k1 _ => ?_) (fun H8 acc2 e8 hL8 hp8 => ?_)
        · simp only [yV] at y
          obtain ⟨rfl, rfl⟩ := y
          exact ⟨by decide, fun p hp => k1 rfl _ _ (same_new (Same.refl _) hp) trivial⟩
        · have hz := hp8.length
          rw [kept_all, List.length_range] at hz
          refine ⟨acc', e8 _ _ hf6, acc2, hL8, small' (by omega), ?_⟩
          refine nx2 _ _ ⟨fun b o hb hne => ?_, _, _, _, rfl, upd_same, by rw [List.length_append]; omega⟩
          rw [upd_ne hne]
          exact e8 _ _ (e6 b o hb hne)
      · rintro σ H6 ⟨e6, v6, v7, acc', rfl, hf6, hal6⟩
        refine nx _ _ ⟨fun b o hb hne => e6 b o (e4 b o hb hne) hne, _, _, _, _, _, acc', rfl, hf6, ?_⟩
        have : (e1' - s1).toNat ≤ 100 := by omega
        have := Nat.mul_le_mul_left 100 this
        omega
    · rintro σ H4 ⟨e4, v3, v4, v5, v6, v7, acc, rfl, hf4, hal⟩
      walk_at "r1"
      exact q _ _ fun b o hb => e4 b o ((e02.trans e3) b o hb) (ne_of_none (e1 _ _ hb) hL)
/-- join_groups(one, other, place, late) -/
def spJG (a : Ad) : Sp := fun vs H Q E => ∃ v u p l, vs = [v, u, p, l] ∧ Tg a.CT H p ∧ Tg a.CT H l ∧ PreJ a H E v u fun R w R' w' => (isNum p 0 (w - 1) = false → Rz E H a.cBC) ∧ (isNum p 0 (w - 1) = true → isNum l 0 (w' - 1) = false → Rz E H a.cBC) ∧
  (isNum p 0 (w - 1) = true → isNum l 0 (w' - 1) = true → ∀ z H', Same H H' → Q z H')
abbrev N_join_groups : List Str := ["one", "other", "place", "late", "found", "value", "mine", "theirs", "few", "more", "whole", "rest"]
theorem ok_join_groups (D : Def K mg "join_groups" 58) (T : Txt K mg a) (M : TabM P w K mg base a.CT) (c_check_sorted : CalX P w K mg base 5 "check_sorted" (spCS a)) (c_walk : CalX P w K mg base 6 "walk" (spWk a)) (c_check_column : CalX P w K mg base 3 "check_column" (spCC a)) (c_column : MetX P w K mg base 4 a.CT "column" (spCol a.CT)) : CalX P w K mg base 7 "join_groups" (spJG a) := by
  refine calx (N := N_join_groups) (ps := ["one", "other", "place", "late"]) D (by decide +kernel) (fun vs H Q E h => ?_) (fun _ _ _ _ _ _ us hl => match us, hl with | [_, _, _, _], _ => rfl) (fun f cdv A outer s H vs Q E hr nd tk pn h => ⟨_, (pss_cons (ps_expr (pe_cx c_check_sorted hr (by decide) tk (pa_cons (pv 0) (pa_cons (pv 1) pa_nil))))
      (pss_cons (ps_expr (pe_cx c_check_column hr (by decide) tk (pa_cons (pv 0) (pa_cons (pv 2) pa_nil))))
      (pss_cons (ps_expr (pe_cx c_check_column hr (by decide) tk (pa_cons (pv 1) (pa_cons (pv 3) pa_nil))))
      (pss_cons (ps_set (i := 4) nd rfl (Or.inl rfl) pe_dnewK)
      (pss_cons (ps_for pn rfl (pi_sq (pe_cx c_walk hr (by decide) tk (pa_cons (pv 0) (pa_cons (pv 1) pa_nil)))) (pg_tupK (K := K) (n := 3) rfl rfl (pgs_cons (pg_name (i := 5) nd rfl (Or.inl rfl)) (pgs_cons (pg_name (i := 6) nd rfl (Or.inl rfl)) (pgs_cons (pg_name (i := 7) nd rfl (Or.inl rfl)) pgs_nil))))
      (pss_cons (ps_par (i := 8) (j := 9) rfl nd rfl rfl (by decide) rfl rfl (pa_cons (pe_op op_sub (pe_ix (ixK (K := K) rfl) (pv 6) pe_int (fun _ _ => rfl)) (pe_ix (ixK (K := K) rfl) (pv 6) pe_int (fun _ _ => rfl))) (pa_cons (pe_op op_sub (pe_ix (ixK (K := K) rfl) (pv 7) pe_int (fun _ _ => rfl)) (pe_ix (ixK (K := K) rfl) (pv 7) pe_int (fun _ _ => rfl))) pa_nil)) (by rfl))
      (pss_cons (ps_par (i := 10) (j := 11) rfl nd rfl rfl (by decide) rfl rfl (pa_cons (pe_callB (crK_sum (K := K) rfl rfl) (by rfl) T.sum bi_sum (pa_cons (pe_slice (sl_listK (K := K) rfl) (pe_col c_column T.k.cl hr (by decide) (pv 0) (pa_cons (pv 2) pa_nil)) (po_some (pe_ix (ixK (K := K) rfl) (pv 6) pe_int (fun _ _ => rfl))) (po_some (pe_ix (ixK (K := K) rfl) (pv 6) pe_int (fun _ _ => rfl)))) pa_nil)) (pa_cons (pe_callB (crK_sum (K := K) rfl rfl) (by rfl) T.sum bi_sum (pa_cons (pe_slice (sl_listK (K := K) rfl) (pe_col c_column T.k.cl hr (by decide) (pv 1) (pa_cons (pv 3) pa_nil)) (po_some (pe_ix (ixK (K := K) rfl) (pv 7) pe_int (fun _ _ => rfl))) (po_some (pe_ix (ixK (K := K) rfl) (pv 7) pe_int (fun _ _ => rfl)))) pa_nil)) pa_nil)) (by rfl))
      (pss_one (ps_dput (hu_of hr) (pv 4) (pv 5) (pe_tup (pa_cons (pe_op op_mul (pv 8) (pv 9)) (pa_cons (pe_op op_mul (pv 10) (pv 9)) (pa_cons (pe_op op_mul (pv 11) (pv 8)) pa_nil)))) rfl)))))
      (pss_one (ps_ret (pv 4)))))))), ?_⟩)
  · obtain ⟨_, _, _, _, rfl, _⟩ := h
    rfl
  · obtain ⟨v, u, p, l, rfl, gp, gl, pj⟩ := h
    clear tk pn nd hr
    walk_at "r1"
    refine preJ_cs pj fun R w R' w' t S t' S' ⟨q1, q2, q3⟩ H1 e1 => ?_
    simp only [spCC]
    walk_at "ex"
    obtain ⟨row, R0, rfl, hw1⟩ := shp_cons S
    obtain ⟨row', R0', rfl, hw1'⟩ := shp_cons S'
    rw [← hw1, ← hw1'] at q2 q3
    rw [← hw1] at q1
    refine ⟨row, R0, t.same e1, gp.same e1, fun hp => ⟨row', R0', t'.same e1, gl.same e1, fun hl => fun L hL => ?_, fun hl => q2 hp hl _ e1⟩, fun hp => q1 hp _ e1⟩
    have q := q3 hp hl
    obtain ⟨pi, rfl, hp0, hp1⟩ := isNum_of hp
    obtain ⟨li, rfl, hl0, hl1⟩ := isNum_of hl
    have e2 : Same H1 (upd H1 L (.dK [])) := same_new (Same.refl _) hL
    have hf : upd H1 L (.dK []) L = some (.dK []) := upd_same
    generalize upd H1 L (.dK []) = H2 at e2 hf ⊢
    walk_at "lp"
    walk_at "r1"
    have e02 := e1.trans e2
    refine spWk_at (t.same e02) S (t'.same e02) S' fun r H3 ts e3 hr0 hr hwk hlen => ⟨r, rfl, true, _, sqA_l hr, ?_⟩
    have nr : r ≠ L := fun z => by rw [z, hf] at hr0; exact nomatch hr0
    have hf3 := e3 _ _ hf
    have w1 := S.le
    have w2 := S'.le
    have nrow : ((row :: R0).length : Int) ≤ 10 := by omega
    have sums : ∀ (R : List (List Int)) (k : Nat) (lo hi : Option Int), R.length ≤ 10 → ∃ ns : List Int, cutV ((col R k).map V.int) lo hi = ns.map V.int := fun R k lo hi _ => by
      obtain ⟨ys, h, _⟩ := cutV_ints (xs := col R k) (lo := lo) (hi := hi)
      exact ⟨ys, h⟩
    refine forB (fun i σ H' => (∀ b o, H3 b = some o → b ≠ L → H' b = some o) ∧ ∃ v5 v6 v7 v8 v9 v10 v11 kvs, σ = [some v, some u, some (.int pi), some (.int li), some (.ref L), v5, v6, v7, v8, v9, v10, v11] ∧ H' L = some (.dK kvs) ∧ kvs.length ≤ i)
      ⟨fun b o h _ => h, none, none, none, none, none, none, none, [], rfl, hf3, Nat.zero_le _⟩ (fun i σ H' _ h => sqA_l (h.1 _ _ hr nr)) ?_ ?_
    · rintro i x σ H4 H5 Nx hi ⟨e4, v5, v6, v7, v8, v9, v10, v11, kvs, rfl, hf4, hal⟩ y nx
      simp only [yV] at y
      obtain ⟨rfl, rfl⟩ := y
      rw [List.length_map] at hi
      obtain ⟨t0, g0, va, m, n, s1, e1', s2, e2', h1, h2, h3, b1, b2, b3, b4, b5, b6⟩ := wk_at hwk hi
      have keep : ∀ {t xs}, H3 t = some (.tup xs) → H5 t = some (.tup xs) := fun {t xs} h => e4 _ _ h fun z => by rw [z, hf3] at h; exact nomatch h
      have tb5 : ∀ {v : V} {R : List (List Int)}, Tb a.CT H1 v R → Tb a.CT H5 v R := by
        intro v R t
        have k : ∀ b o, H1 b = some o → H5 b = some o := fun b o hb => e4 b o ((e2.trans e3) b o hb) (ne_of_none hb hL)
        exact t.same k
      rw [g0]
      refine un3 (keep h1) ?_
      walk_at "r1"
      have h2' := keep h2
      have h3' := keep h3
      have t5 := tb5 (t.same e1)
      have t5' := tb5 (t'.same e1)
      refine ix_t h2' (atI_nat (k := 1) rfl) (ix_t h2' (atI_nat (k := 0) rfl) ⟨_, rfl, _, rfl, ?_⟩)
      refine ix_t h3' (atI_nat (k := 1) rfl) (ix_t h3' (atI_nat (k := 0) rfl) ⟨_, rfl, _, rfl, ?_⟩)
      refine ⟨_, _, ⟨rfl, rfl⟩, ⟨_, t5⟩, _, w, pi.toNat, (Int.toNat_of_nonneg hp0).symm, t5, S, by omega, fun H6 L6 e6 _ hL6 => ?_⟩
      refine ix_t (e6 _ _ h2') (atI_nat (k := 0) rfl) ⟨_, rfl, ix_t (e6 _ _ h2') (atI_nat (k := 1) rfl) ⟨_, rfl, _, SqL.of hL6, fun p7 hp7 => ?_⟩⟩
      obtain ⟨ns7, hns7⟩ := sums (row :: R0) pi.toNat (some s1) (some e1') w1
      rw [hns7]
      refine sum_l (ns := ns7) upd_same ?_
      have e7 := fun o => same_up (o := o) e6 hp7
      generalize hH7 : upd H6 p7 (.lst (ns7.map V.int)) = H7
      have e7' : Same H5 H7 := hH7 ▸ e7 _
      have t7 := t5'.same e7'
      refine ⟨⟨_, t7⟩, _, w', li.toNat, (Int.toNat_of_nonneg hl0).symm, t7, S', by omega, fun H8 L8 e8 _ hL8 => ?_⟩
      have e58 := e7'.trans e8
      refine ix_t (e58 _ _ h3') (atI_nat (k := 0) rfl) ⟨_, rfl, ix_t (e58 _ _ h3') (atI_nat (k := 1) rfl) ⟨_, rfl, _, SqL.of hL8, fun p9 hp9 => ?_⟩⟩
      obtain ⟨ns9, hns9⟩ := sums (row' :: R0') li.toNat (some s2) (some e2') w2
      rw [hns9]
      refine sum_l (ns := ns9) upd_same ?_
      have e9 := same_up (o := .lst (ns9.map V.int)) e58 hp9
      generalize upd H8 p9 (.lst (ns9.map V.int)) = H9 at e9 ⊢
      refine ⟨_, _, ⟨rfl, rfl⟩, _, rfl, _, rfl, smul (by omega) (by omega), _, rfl, _, rfl, smulR (by omega) (by omega), _, rfl, _, rfl, smulR (by omega) (by omega), by decide, fun p10 hp10 => ?_⟩
      have e10 := same_up (o := .tup [.int ((e1' - s1) * (e2' - s2)), .int (ns7.sum * (e2' - s2)), .int (ns9.sum * (e1' - s1))]) e9 hp10
      have hf10 := e10 _ _ hf4
      refine ⟨_, DPut.k (k := Sum.inl va) hf10 (small1000 (by omega)), nx _ _ ⟨fun b o hb hne => ?_, _, _, _, _, _, _, _, _, rfl, upd_same, ?_⟩⟩
      · rw [upd_ne hne]
        exact e10 _ _ (e4 b o hb hne)
      · have := putK_le kvs (Sum.inl va : Key) (V.ref p10)
        omega
    · rintro σ H4 ⟨e4, v5, v6, v7, v8, v9, v10, v11, kvs, rfl, hf4, hal⟩
      walk_at "r1"
      exact q _ _ fun b o hb => e4 b o ((e02.trans e3) b o hb) (ne_of_none (e1 _ _ hb) hL)
end
end G


set_option Elab.async false
set_option linter.all false
set_option maxRecDepth 100000
set_option maxHeartbeats 4000000
/-! Dicts whose keys are tuples of ints, None and such tuples. -/
namespace G
open PySem PySem.Spec PyProof.Rows L2
/-! ### a key in the heap -/
mutual
inductive NkV (H : Hp) : NestedKey → V → Prop where
  | non : NkV H .none .non
  | int (i : Int) : NkV H (.num i) (.int i)
  | tup {b : Addr} {xs : List V} {ks : List NestedKey} : H b = some (.tup xs) → NkAll H ks xs → NkV H (.tup ks) (.ref b)
inductive NkAll (H : Hp) : List NestedKey → List V → Prop where
  | nil : NkAll H [] []
  | cons {k : NestedKey} {ks : List NestedKey} {v : V} {vs : List V} : NkV H k v → NkAll H ks vs → NkAll H (k :: ks) (v :: vs)
end
mutual
theorem nk_mono {H H' : Hp} (e : ∀ b xs, H b = some (.tup xs) → H' b = some (.tup xs)) : ∀ (k : NestedKey) (v : V), NkV H k v → NkV H' k v
  | .none, _, h => by cases h; exact .non
  | .num i, _, h => by cases h; exact .int i
  | .text x, _, h => by cases h
  | .tup ks, _, h => by
    cases h with
    | tup h1 h2 => exact .tup (e _ _ h1) (nk_monoA e ks _ h2)
theorem nk_monoA {H H' : Hp} (e : ∀ b xs, H b = some (.tup xs) → H' b = some (.tup xs)) : ∀ (ks : List NestedKey) (vs : List V), NkAll H ks vs → NkAll H' ks vs
  | [], _, h => by cases h; exact .nil
  | k :: ks, _, h => by
    cases h with
    | cons h1 h2 => exact .cons (nk_mono e k _ h1) (nk_monoA e ks _ h2)
end
mutual
theorem nk_is {P : Program} {w : World} {H : Hp} {h : Heap} (ok : HOk P w H h) : ∀ (k : NestedKey) (v : V) (u : Value), NkV H k v → RelV v u → NestedIs h k u
  | .none, _, _, x, r => by cases x; cases r; exact .none
  | .num i, _, _, x, r => by cases x; obtain ⟨t, rfl⟩ := r; exact .int i t
  | .text x, _, _, h, _ => by cases h
  | .tup ks, _, u, x, r => by
    cases x with
    | tup h1 h2 =>
      rename_i b xs
      obtain rfl : u = Value.ref b := r
      obtain ⟨_, its, rv, o, ho, hc, n, hd⟩ := (show ObjOk P w H h b (.tup xs) from ok b _ h1)
      exact .tup ho hc hd (nk_isA ok ks xs its h2 rv)
theorem nk_isA {P : Program} {w : World} {H : Hp} {h : Heap} (ok : HOk P w H h) : ∀ (ks : List NestedKey) (vs : List V) (us : List Value), NkAll H ks vs → Vals vs us → NestedAll h ks us
  | [], _, _, x, r => by cases x; cases r; exact .nil
  | k :: ks, _, _, x, r => by
    cases x with
    | cons h1 h2 =>
      cases r with
      | cons r1 r2 => exact .cons (nk_is ok k _ _ h1 r1) (nk_isA ok ks _ _ h2 r2)
end
/-- the tuple at b is the key k -/
def KeyAt (H : Hp) (b : Addr) (k : NestedKey) : Prop := NkV H k (.ref b) ∧ k.depth ≤ 8
theorem KeyAt.mono {H H' : Hp} {b : Addr} {k : NestedKey} (x : KeyAt H b k) (e : ∀ b xs, H b = some (.tup xs) → H' b = some (.tup xs)) : KeyAt H' b k := ⟨nk_mono e _ _ x.1, x.2⟩
theorem KeyAt.same {H H' : Hp} {b : Addr} {k : NestedKey} (x : KeyAt H b k) (e : Same H H') : KeyAt H' b k := x.mono fun b xs h => e _ _ h
theorem KeyAt.is {P : Program} {w : World} {H : Hp} {h : Heap} {b : Addr} {k : NestedKey} (x : KeyAt H b k) (ok : HOk P w H h) : (nestedKind P w).is h k b := ⟨nk_is ok _ _ _ x.1 rfl, x.2⟩

/-! ### a dict in the heap: its record is pinned -/
def rawO (d : Addr) (o : Obj) : HO := .ext fun h => h.get? d = some o
abbrev NE := NestedKey × Addr × V
abbrev NR := NestedKey × Addr × Value
def RelE (p : NE) (q : NR) : Prop := p.1 = q.1 ∧ p.2.1 = q.2.1 ∧ RelV p.2.2 q.2.2
def DKo (P : Program) (w : World) (H : Hp) (d : Addr) (o : Obj) (xs : List NE) : Prop :=
  H d = some (rawO d o) ∧ (d == sysModules) = false ∧ xs.length ≤ 100000 ∧ o.ExactDict ∧ (xs.map (·.1)).Nodup ∧ (∀ x ∈ xs, KeyAt H x.2.1 x.1) ∧ ∃ es ep vs, o.data = .dict es ep ∧ es.toList = vs.map (entryOfKey (nestedKind P w)) ∧ Paired RelE xs vs
/-- keys and values -/
def kvO (xs : List NE) : List (NestedKey × V) := xs.map fun x => (x.1, x.2.2)
def DN (P : Program) (w : World) (H : Hp) (d : Addr) (kvs : List (NestedKey × V)) : Prop := ∃ o xs, DKo P w H d o xs ∧ kvO xs = kvs
theorem DKo.same {P : Program} {w : World} {H H' : Hp} {d : Addr} {o : Obj} {xs : List NE} (x : DKo P w H d o xs) (e : Same H H') : DKo P w H' d o xs := by
  obtain ⟨h1, h2, h3, h4, h5, h6, h7⟩ := x
  exact ⟨e _ _ h1, h2, h3, h4, h5, fun y hy => (h6 y hy).same e, h7⟩
/-- .. other things may change, tuples do not -/
theorem DKo.but {P : Program} {w : World} {H H' : Hp} {d : Addr} {o : Obj} {xs : List NE} (x : DKo P w H d o xs) (hd : H' d = H d) (e : ∀ b ys, H b = some (.tup ys) → H' b = some (.tup ys)) : DKo P w H' d o xs := by
  obtain ⟨h1, h2, h3, h4, h5, h6, h7⟩ := x
  exact ⟨hd.trans h1, h2, h3, h4, h5, fun y hy => (h6 y hy).mono e, h7⟩
theorem DN.same {P : Program} {w : World} {H H' : Hp} {d : Addr} {kvs : List (NestedKey × V)} (x : DN P w H d kvs) (e : Same H H') : DN P w H' d kvs := by
  obtain ⟨o, xs, h1, h2⟩ := x
  exact ⟨o, xs, h1.same e, h2⟩
theorem DN.but {P : Program} {w : World} {H H' : Hp} {d : Addr} {kvs : List (NestedKey × V)} (x : DN P w H d kvs) (hd : H' d = H d) (e : ∀ b ys, H b = some (.tup ys) → H' b = some (.tup ys)) : DN P w H' d kvs := by
  obtain ⟨o, xs, h1, h2⟩ := x
  exact ⟨o, xs, h1.but hd e, h2⟩
theorem DN.raw {P : Program} {w : World} {H : Hp} {d : Addr} {kvs : List (NestedKey × V)} (x : DN P w H d kvs) : ∃ o, H d = some (rawO d o) := by
  obtain ⟨o, xs, h1, h2⟩ := x
  exact ⟨o, h1.1⟩
theorem DN.nodup {P : Program} {w : World} {H : Hp} {d : Addr} {kvs : List (NestedKey × V)} (x : DN P w H d kvs) : (kvs.map (·.1)).Nodup := by
  obtain ⟨o, xs, h1, h2⟩ := x
  subst h2
  unfold kvO
  rw [List.map_map]
  exact h1.2.2.2.2.1
theorem upd_raw {H : Hp} {d b : Addr} {o o' : Obj} {xs : List V} (hd : H d = some (rawO d o)) (h : H b = some (.tup xs)) : upd H d (rawO d o') b = some (.tup xs) := by
  rw [upd_ne (fun e => by rw [e, hd] at h; exact nomatch h)]
  exact h
section
variable {X : Cx} {pins : List (Addr × Obj)} {σ : L2.St} {H : Hp} {s : Shared} {d : Addr} {o : Obj} {xs : List NE}
theorem DKo.get {P : Program} {w : World} {h : Heap} (x : DKo P w H d o xs) (ok : HOk P w H h) : h.get? d = some o := (show ObjOk P w H h d (rawO d o) from ok d _ x.1).1
theorem DKo.keys {P : Program} {w : World} {h : Heap} : ∀ {xs : List NE} {vs : List NR}, Paired RelE xs vs → HOk P w H h → (∀ x ∈ xs, KeyAt H x.2.1 x.1) → ∀ y ∈ vs, (nestedKind P w).is h y.1 y.2.1
  | _, _, .nil, _, _, _, hy => nomatch hy
  | _, _, .cons (b := q) r t, ok, hk, y, hy => by
    rcases List.mem_cons.mp hy with e | hy
    · rw [e, ← r.1, ← r.2.1]
      exact (hk _ (List.mem_cons_self ..)).is ok
    · exact DKo.keys t ok (fun x hx => hk x (List.mem_cons_of_mem _ hx)) y hy
theorem rel_keys : ∀ {xs : List NE} {vs : List NR}, Paired RelE xs vs → vs.map (·.1) = xs.map (·.1)
  | _, _, .nil => rfl
  | _, _, .cons r t => by rw [List.map_cons, List.map_cons, rel_keys t, r.1]
theorem DKo.dict {P : Program} {w : World} {h : Heap} (x : DKo P w H d o xs) (ok : HOk P w H h) : ∃ vs, Paired RelE xs vs ∧ h.DictOfH (nestedKind P w) d vs := by
  have g := x.get ok
  obtain ⟨h1, h2, h3, h4, h5, h6, es, ep, vs, e1, e2, e3⟩ := x
  exact ⟨vs, e3, o, es, ep, g, h4, e1, e2, DKo.keys e3 ok h6, by rw [rel_keys e3]; exact h5⟩
theorem rel_at : ∀ {xs : List NE} {vs : List NR}, Paired RelE xs vs → ∀ k, RelO (valV (kvO xs) k) ((atKey vs k).map (·.2))
  | _, _, .nil, _ => True.intro
  | _, _, .cons (a := p) (b := q) r t, k => by
    have ih := rel_at t k
    by_cases e : p.1 = k
    · have e' : q.1 = k := r.1 ▸ e
      have a1 : ∀ l, valV (kvO (p :: l)) k = some p.2.2 := fun l => valV_pos (p := (p.1, p.2.2)) (r := kvO l) e
      rw [a1]
      have a2 : ∀ l : List NR, ((atKey (q :: l) k).map (·.2)) = some q.2.2 := fun l => by simp [atKey, List.find?_cons, e']
      rw [a2]
      exact r.2.2
    · have e' : ¬ q.1 = k := fun z => e (r.1.trans z)
      have a1 : ∀ l, valV (kvO (p :: l)) k = valV (kvO l) k := fun l => valV_neg (p := (p.1, p.2.2)) (r := kvO l) e
      rw [a1]
      have a2 : ∀ l : List NR, ((atKey (q :: l) k).map (·.2)) = ((atKey l k).map (·.2)) := fun l => by simp [atKey, List.find?_cons, e']
      rw [a2]
      exact ih
/-- the entries behind d[k] = v -/
def putE (xs : List NE) (k : NestedKey) (b : Addr) (v : V) : List NE :=
  if (xs.any fun x => decide (x.1 = k)) = true then xs.map (fun x => if x.1 = k then (x.1, x.2.1, v) else x) else xs ++ [(k, b, v)]
theorem putE_kv (xs : List NE) (k : NestedKey) (b : Addr) (v : V) : kvO (putE xs k b v) = putK (kvO xs) k v := by
  unfold putE putK kvO
  have e : ((xs.map fun x => (x.1, x.2.2)).any fun kv => decide (kv.1 = k)) = xs.any fun x => decide (x.1 = k) := by
    rw [List.any_map]; rfl
  rw [e]
  split
  · rw [List.map_map, List.map_map]
    refine List.map_congr_left fun x _ => ?_
    simp only [Function.comp_apply]
    split <;> rfl
  · simp
theorem putE_mem {xs : List NE} {k : NestedKey} {b : Addr} {v : V} {x : NE} (h : x ∈ putE xs k b v) : (∃ y ∈ xs, y.1 = x.1 ∧ y.2.1 = x.2.1) ∨ (x.1 = k ∧ x.2.1 = b) := by
  unfold putE at h
  split at h
  · obtain ⟨y, hy, rfl⟩ := List.mem_map.mp h
    refine .inl ⟨y, hy, ?_⟩
    split <;> exact ⟨rfl, rfl⟩
  · rcases List.mem_append.mp h with h | h
    · exact .inl ⟨x, h, rfl, rfl⟩
    · rw [List.mem_singleton.mp h]
      exact .inr ⟨rfl, rfl⟩
theorem putE_len (xs : List NE) (k : NestedKey) (b : Addr) (v : V) : (putE xs k b v).length ≤ xs.length + 1 := by
  unfold putE
  split
  · rw [List.length_map]; omega
  · simp
theorem rel_any : ∀ {xs : List NE} {vs : List NR}, Paired RelE xs vs → ∀ k, (atKey vs k).isSome = xs.any fun x => decide (x.1 = k)
  | _, _, .nil, _ => rfl
  | _, _, .cons (a := p) (b := q) r t, k => by
    have ih := rel_any t k
    rw [List.any_cons, ← ih, r.1]
    by_cases e : q.1 = k
    · simp [atKey, List.find?_cons, e]
    · simp [atKey, List.find?_cons, e]
theorem rel_map : ∀ {xs : List NE} {vs : List NR}, Paired RelE xs vs → ∀ (k : NestedKey) {v : V} {u : Value}, RelV v u → Paired RelE (xs.map fun x => if x.1 = k then (x.1, x.2.1, v) else x) (vs.map (putAt k u))
  | _, _, .nil, _, _, _, _ => .nil
  | _, _, .cons (a := p) (b := q) r t, k, v, u, rv => by
    refine .cons ?_ (rel_map t k rv)
    unfold putAt
    obtain ⟨r1, r2, r3⟩ := r
    dsimp only
    by_cases e : p.1 = k
    · rw [if_pos e, if_pos (r1 ▸ e)]; exact ⟨r1, r2, rv⟩
    · rw [if_neg e, if_neg (r1 ▸ e)]; exact ⟨r1, r2, r3⟩
theorem rel_put {xs : List NE} {vs : List NR} (r : Paired RelE xs vs) (k : NestedKey) (b : Addr) {v : V} {u : Value} (rv : RelV v u) : Paired RelE (putE xs k b v) (storedH vs k b u) := by
  unfold putE storedH
  rw [rel_any r k]
  split
  · exact rel_map r k rv
  · exact paired_snoc r ⟨rfl, rfl, rv⟩
/-- a dict's new record is laid down -/
theorem raw_ok {P : Program} {w : World} {H : Hp} {h : Heap} (e : h.get? d = some o) : ObjOk P w H h d (rawO d o) := ⟨e, ⟨o, e⟩, fun h1 h2 h3 h4 => h4 _ h3⟩
theorem hu8 {prog : Program} {w : World} {A : Around} (hu : A.units + 64 < cLine) : (nestedKind prog w).room A.in1 := by
  show A.units + 1 + 8 < cLine
  omega
theorem hu8' {prog : Program} {w : World} {A : Around} (hu : A.units + 64 < cLine) : (nestedKind prog w).room A.in1.in1 := by
  show A.units + 1 + 1 + 8 < cLine
  omega
theorem dn_of {P : Program} {w : World} {H' : Hp} {o' : Obj} {es : Array DictEntry} {ep : Nat} {ys : List NE} {vs : List NR} (hd : (d == sysModules) = false) (hl : ys.length ≤ 100000) (h1 : H' d = some (rawO d o')) (hc : o'.ExactDict) (hdt : o'.data = .dict es ep)
    (he : es.toList = vs.map (entryOfKey (nestedKind P w))) (r : Paired RelE ys vs) (hk : ∀ x ∈ ys, KeyAt H' x.2.1 x.1) (hn : (vs.map (·.1)).Nodup) : DN P w H' d (kvO ys) :=
  ⟨o', ys, ⟨h1, hd, hl, hc, by rw [← rel_keys r]; exact hn, hk, es, ep, vs, hdt, he, r⟩, rfl⟩
end
/-! ### rules -/
section
variable {X : Cx}
/-- {} -/
def tDNewN (P : Program) (w : World) : TE := fun _ H Q => ∀ p H', H p = none → Same H H' → (∀ b, b ≠ p → H' b = H b) → DN P w H' p [] → Q (.ref p) H'
theorem pe_dnewN {P : Program} {w : World} {pos : Pos} : PE X (.Dict [] [] pos) (tDNewN P w) := by
  refine ⟨fun pins s σ H Q I h => wpAny_Dict_empty ?_⟩
  have hn : H s.heap.objs.size = none := I.hok.fresh (Nat.le_refl _)
  have hm : (s.heap.objs.size == sysModules) = false := beq_eq_false_iff_ne.mpr (Nat.ne_of_gt I.big)
  refine ⟨.ref s.heap.objs.size, upd H s.heap.objs.size (rawO s.heap.objs.size { cls := .type "dict", data := .dict #[] }), I.laid (t' := s.toks) (fun _ _ q => Heap.get?_push_of_some _ q) (Nat.le_refl _) (raw_ok (Heap.get?_push_size _ rfl)), rfl, ?_⟩
  refine h _ _ hn (same_new (Same.refl _) hn) (fun b hb => upd_ne hb) ?_
  exact dn_of (ys := []) (vs := []) hm (by simp) upd_same ⟨rfl, rfl, rfl⟩ rfl rfl .nil (fun _ h => nomatch h) List.nodup_nil
/-- d[k] = v -/
def rSetN (P : Program) (w : World) : TSet := fun o i v H Q => ∃ d b k kvs, o = .ref d ∧ i = .ref b ∧ KeyAt H b k ∧ DN P w H d kvs ∧ kvs.length < 100000 ∧
  ∀ H', (∀ c, c ≠ d → H' c = H c) → DN P w H' d (putK kvs k v) → Q H'
theorem setN {P : Program} {w : World} (hP : X.prog = P) (hw : X.w = w) (hu : X.A.units + 64 < cLine) : PSet X (rSetN P w) := by
  subst hP hw
  intro pins s σ H o i v ov iv u Q I ro ri rv h
  obtain ⟨d, b, k, kvs, rfl, rfl, hk, ⟨ob, xs, hd, rfl⟩, hl, q⟩ := h
  cases ro
  cases ri
  obtain ⟨vs, rel, dd⟩ := hd.dict I.hok
  have hlen : vs.length = xs.length := rel.length.symm
  have hl' : xs.length < 100000 := by unfold kvO at hl; rw [List.length_map] at hl; exact hl
  have hz : (100000 : Nat) < sizeLine := by rw [sizeLine_eq]; decide
  refine wpAny_setItem_heap (hsz := by omega) (hu8 hu) (hk.is I.hok) dd fun h' dd' hs => ?_
  obtain ⟨o', es, ep, hq, h2, h3, h4, _, h5⟩ := dd'
  have tupk : ∀ c ys, H c = some (.tup ys) → upd H d (rawO d o') c = some (.tup ys) := fun c ys hc => upd_raw hd.1 hc
  refine ⟨upd H d (rawO d o'), I.write (x := d) (e := d) (by rw [hd.1]; exact True.intro) (.inl rfl) (fun c q hc z => (hs.2 c hc).trans z) ⟨_, hq⟩ (raw_ok hq), q _ (fun c hc => upd_ne hc) ?_⟩
  rw [← putE_kv xs k b v]
  refine dn_of hd.2.1 (by have := putE_len xs k b v; omega) upd_same h2 h3 h4 (rel_put rel k b rv) (fun x hx => ?_) h5
  rcases putE_mem hx with ⟨y, hy, e1, e2⟩ | ⟨e1, e2⟩
  · rw [← e1, ← e2]
    exact (hd.2.2.2.2.2.1 y hy).mono tupk
  · rw [e1, e2]
    exact hk.mono tupk
/-- d[k] -/
def rIxN (P : Program) (w : World) : R2 := fun x y H Q => ∃ d b k kvs v, x = .ref d ∧ y = .ref b ∧ KeyAt H b k ∧ DN P w H d kvs ∧ valV kvs k = some v ∧ Q v H
theorem ixN' {P : Program} {w : World} (hP : X.prog = P) (hw : X.w = w) (hu : X.A.units + 64 < cLine) : IxR X (rIxN P w) := by
  subst hP hw
  intro value slice pins s σ H x y v u Q I rx ry h hs
  obtain ⟨d, b, k, kvs, z, rfl, rfl, hk, ⟨ob, xs, hd, rfl⟩, hv, q⟩ := h
  cases rx
  cases ry
  obtain ⟨vs, rel, dd⟩ := hd.dict I.hok
  have r := rel_at rel k
  rw [hv] at r
  cases e : (atKey vs k).map (·.2) with
  | none => rw [e] at r; exact r.elim
  | some u =>
    rw [e] at r
    obtain ⟨p, hp, hp2⟩ := Option.map_eq_some_iff.mp e
    subst hp2
    exact subscriptTail_builtinR (x := p.2) dd.typeIs PySem.F.slot_dict_getitem.lookup (wpAny_getItem_heap (hu8 hu) (hk.is I.hok) dd hp ⟨rfl, z, H, I.tok _, r, q⟩) hs
/-- k in d -/
def rInN (P : Program) (w : World) : R2 := fun x y H Q => ∃ d b k kvs, y = .ref d ∧ x = .ref b ∧ KeyAt H b k ∧ DN P w H d kvs ∧ Q (.bl (valV kvs k).isSome) H
theorem inN {P : Program} {w : World} (hP : X.prog = P) (hw : X.w = w) (hu : X.A.units + 64 < cLine) : OpR X (compareOp .In) (rInN P w) := by
  subst hP hw
  intro pins s σ H x y v u Q I rx ry h
  obtain ⟨d, b, k, kvs, rfl, rfl, hk, ⟨ob, xs, hd, rfl⟩, q⟩ := h
  cases rx
  cases ry
  obtain ⟨vs, rel, dd⟩ := hd.dict I.hok
  have r := rel_at rel k
  refine wpAny_in_heap (hu8 hu) (hk.is I.hok) hd.2.1 dd ?_
  have e : (atKey vs k).isSome = (valV (kvO xs) k).isSome := by
    have := r.isSome_eq
    rw [Option.isSome_map] at this
    exact this.symm
  rw [e]
  exact ⟨.bl _, H, I.tok _, rfl, q⟩
/-- d.get(k, x) -/
def rGetN (P : Program) (w : World) : V → List V → Hp → VK → Prop := fun x vs H Q => ∃ d b k kvs z, x = .ref d ∧ vs = [.ref b, z] ∧ KeyAt H b k ∧ DN P w H d kvs ∧ Q ((valV kvs k).getD z) H
theorem getN {P : Program} {w : World} (hP : X.prog = P) (hw : X.w = w) (hu : X.A.units + 64 < cLine) : MtM X "dict.get" (rGetN P w) := by
  subst hP hw
  intro pins s σ H x xs v us Q I rx rv h
  obtain ⟨d, b, k, kvs, z, rfl, rfl, hk, ⟨ob, xs, hd, rfl⟩, q⟩ := h
  cases rx
  obtain ⟨u1, u2, rfl, r1, r2⟩ := vals2 rv
  cases r1
  obtain ⟨vs, rel, dd⟩ := hd.dict I.hok
  have r := rel_at rel k
  refine call_meetsIn PySem.F.slot_dict_get dd.typeIs PySem.F.entry_dict_get (PySem.F.args_dict_get_3 _ _ _) (meetsH_dict_get_default (nestedKind X.prog X.w) d b hd.2.1 u2) ⟨hu8 hu, k, vs, hk.is I.hok, dd, ?_⟩
  refine ⟨_, H, I.tok _, ?_, q⟩
  cases e1 : valV (kvO xs) k with
  | none =>
    cases e2 : (atKey vs k).map (·.2) with
    | none => exact r2
    | some u => rw [e1, e2] at r; exact r.elim
  | some v1 =>
    cases e2 : (atKey vs k).map (·.2) with
    | none => rw [e1, e2] at r; exact r.elim
    | some u => rw [e1, e2] at r; exact r
/-- for k in d: the keys' own tuples; the dict stands -/
def iKN (P : Program) (w : World) (td : TE) : TI := fun σ H R => td σ H fun x H1 => ∃ d o xs, x = .ref d ∧ DKo P w H1 d o xs ∧ R (ItG xs.length (fun H => DKo P w H d o xs) (yV fun i => .ref (xs.getD i (.none, 0, .non)).2.1)) H1
theorem relE_at {xs : List NE} {vs : List NR} (r : Paired RelE xs vs) {i : Nat} (hi : i < xs.length) : ∃ q, vs[i]? = some q ∧ RelE (xs.getD i (.none, 0, .non)) q := by
  have e : xs[i]? = some (xs.getD i (.none, 0, .non)) := by
    rw [List.getD_eq_getElem?_getD, List.getElem?_eq_getElem hi]; rfl
  exact paired_get r e
theorem ent_at {es : Array DictEntry} {vs : List NR} {i : Nat} {q : NR} {P : Program} {w : World} (he : es.toList = vs.map (entryOfKey (nestedKind P w))) (hq : vs[i]? = some q) (hi : i < es.size) : es[i].key = .ref q.2.1 ∧ es[i].val = q.2.2 := by
  have e1 : es.toList[i]? = some (entryOfKey (nestedKind P w) q) := by rw [he, List.getElem?_map, hq]; rfl
  rw [Array.getElem?_toList, Array.getElem?_eq_getElem hi] at e1
  have e2 := Option.some.inj e1
  rw [e2]
  exact ⟨rfl, rfl⟩
theorem sz_of {es : Array DictEntry} {xs : List NE} {vs : List NR} {P : Program} {w : World} (he : es.toList = vs.map (entryOfKey (nestedKind P w))) (r : Paired RelE xs vs) : es.size = xs.length := by
  have := congrArg List.length he
  rw [Array.length_toList, List.length_map] at this
  rw [this, r.length]
theorem turnKN {P : Program} {w : World} {K : PySem.W.Frag} {tg : Expr} {d N : Addr} {o : Obj} {xs : List NE} {es : Array DictEntry} {ep : Nat} (hN : d < N) (hdt : o.data = .dict es ep) (hz : es.size = xs.length) :
    Turn P w K tg (ItG xs.length (fun H => DKo P w H d o xs) (yV fun i => .ref (xs.getD i (.none, 0, .non)).2.1)) [N] N (fun i h => h.IsKeyIter N d i es.size ep) where
  mem := by simp
  obj := fun i h st b hb => by
    have e : b = N := by simpa using hb
    subst e
    obtain ⟨oi, e, c, dd⟩ := st
    exact ⟨oi, e, fun v z => by rw [dd] at z; cases z⟩
  keep := fun i h h' st k => st.at fun oi e => k N (by simp) oi e
  item := by
    intro X hP hw hK hc i pins s σ H E I hf st hg
    subst hP hw hK
    obtain ⟨hi, hd⟩ := hg
    obtain ⟨f0, f1, f2, f3, f4, f5⟩ := hf N (by simp)
    have g := hd.get I.hok
    obtain ⟨_, hsys, _, hex, _, _, es', ep', vs, e1, e2, e3⟩ := id hd
    obtain ⟨rfl, rfl⟩ := dict_ep hdt e1
    obtain ⟨q, hq, rq⟩ := relE_at e3 hi
    have hi' : i < es'.size := by rw [hz]; exact hi
    obtain ⟨k1, k2⟩ := ent_at e2 hq hi'
    refine wpAny_pyNext_keys_item_raw st ⟨o, g, hex, hdt⟩ hi' fun h' st' sb => ?_
    have I1 : Inv X pins σ H { s with heap := h' } := I.turned (t' := s.toks) (fun b ob hb e => (sb.2 b hb).trans e) f0 f1 f3 f4 f5
    obtain ⟨oi, e, c, dd⟩ := id st'
    refine ⟨_, rfl, go_of (s := { s with heap := h' }) e c dd (by decide) ⟨.ref q.2.1, H, I1, k1, ⟨(congrArg V.ref rq.2.1).symm, rfl⟩, st', fun b hb => (hf b hb).1⟩⟩
  done := by
    intro X hP hw hK hc i pins s σ H E I hf st hg
    subst hP hw hK
    obtain ⟨hi, hd⟩ := hg
    obtain ⟨f0, f1, f2, f3, f4, f5⟩ := hf N (by simp)
    have g := hd.get I.hok
    have hex := hd.2.2.2.1
    refine wpAny_pyNext_keys_end_raw (I.ok.hd hc) st ⟨o, g, hex, hdt⟩ ?_ fun h' eb => ⟨rfl, I.turned (t' := s.toks) (fun b ob hb e => eb b ob hb e) f0 f1 f3 f4 f5⟩
    rw [hz, hi]
    exact Nat.le_refl _
  self := fun A i s Q E st h => by
    refine wpAny_pyIter_keyiter st h
theorem piKN {P : Program} {w : World} {tg e : Expr} {td : TE} (hP : X.prog = P) (hw : X.w = w) (he : PE X e td) : PI X tg e (iKN P w td) := by
  subst hP hw
  refine ⟨fun pins s σ H R I h => ?_⟩
  refine thn (he.run pins s σ H _ I h) fun u s1 ⟨x, H1, I1, rx, d, o, xs, ex, hd, q⟩ => ?_
  subst ex
  obtain rfl : u = Value.ref d := rx
  have g := hd.get I1.hok
  obtain ⟨_, hsys, _, hex, _, _, es, ep, vs, e1, e2, e3⟩ := id hd
  exact iter_keys hsys g hex e1 (pi_one (tk := s1.toks) I1 _ (turnKN (Heap.lt_size g) e1 (sz_of e2 e3)) ⟨_, Heap.get?_push_size _ rfl, rfl, rfl⟩ q)
/-- for k, v in d.items(): new pairs; the dict stands -/
def iIN (P : Program) (w : World) (td : TE) : TI := fun σ H R => td σ H fun x H1 => ∃ d o xs, x = .ref d ∧ DKo P w H1 d o xs ∧
  R (ItG xs.length (fun H => DKo P w H d o xs) (yT fun i => [.ref (xs.getD i (.none, 0, .non)).2.1, (xs.getD i (.none, 0, .non)).2.2])) H1
theorem turnIN {P : Program} {w : World} {K : PySem.W.Frag} {elts : List Expr} {kk : Nat} {tpos : Pos} {d N : Addr} {o : Obj} {xs : List NE} {es : Array DictEntry} {ep : Nat} (hN : d < N) (hdt : o.data = .dict es ep) (hz : es.size = xs.length) :
    Turn P w K (.Tuple elts kk tpos) (ItG xs.length (fun H => DKo P w H d o xs) (yT fun i => [.ref (xs.getD i (.none, 0, .non)).2.1, (xs.getD i (.none, 0, .non)).2.2])) [N] N (fun i h => ∃ ok ov, IsItemIter h N d i es.size ep ok ov) := by
  refine turn_new (wr := [N]) (by simp) (by simp) (fun i h st b hb => ?_) (fun i h h' st k => ?_) (fun A i s Q E st h => ?_) ?_
  · have e : b = N := by simpa using hb
    subst e
    obtain ⟨ok, ov, e⟩ := st
    exact ⟨_, e, fun v z => nomatch z⟩
  · obtain ⟨ok, ov, e⟩ := st
    exact ⟨ok, ov, k N (by simp) _ e⟩
  · obtain ⟨ok, ov, e⟩ := st
    exact wpAny_pyIter_itemiter e h
  · intro X hP hw hK hc i pins s σ H I st hq hi
    subst hP hw hK
    have g := hq.get I.hok
    obtain ⟨_, hsys, _, hex, _, _, es', ep', vs, e1, e2, e3⟩ := id hq
    obtain ⟨rfl, rfl⟩ := dict_ep hdt e1
    have W := GoesN.rawItems (prog := X.prog) (w := X.w) (A := X.A) (elts := elts) (x1 := kk) (pos := tpos) (I.ok.hd hc) N d (Nat.ne_of_lt hN) es' ep'
    have W2 : ∀ n, n = es'.size → ∃ Y St, GoesN X.prog X.w X.A (.Tuple elts kk tpos) N [N, d] [N] n Y St ∧ St i s.heap ∧ (∀ h', St (i + 1) h' → ∃ ok ov, IsItemIter h' N d (i + 1) es'.size ep' ok ov) ∧
        ∀ h₀ v h, Y i h₀ v h → ∃ T, ∃ hi : i < es'.size, v = .ref T ∧ h₀.objs.size ≤ T ∧ h.IsTuple T #[es'[i].key, es'[i].val] := by
      intro n e
      subst e
      exact ⟨_, _, W, ⟨st, o, g, hex, hdt⟩, fun h' z => z.1, fun h₀ v h z => z⟩
    obtain ⟨Y, St, W3, st3, b3, y3⟩ := W2 xs.length hz.symm
    refine ⟨[N, d], Y, St, W3, st3, b3, fun v h' hlt hY => ?_⟩
    · obtain ⟨T, hi', rfl, hT, ht⟩ := y3 _ _ _ hY
      obtain ⟨q, hq', rq⟩ := relE_at e3 hlt
      obtain ⟨k1, k2⟩ := ent_at e2 hq' (by rw [hz]; exact hlt)
      refine ⟨T, [.ref q.2.1, q.2.2], rfl, hT, .cons ?_ (.cons rq.2.2 .nil), by show 2 ≤ sizeLine; decide, ?_⟩
      · show _ = _
        rw [rq.2.1]
      · rw [k1, k2] at ht
        exact ht
theorem piIN {P : Program} {w : World} {elts : List Expr} {kk : Nat} {tpos apos cpos : Pos} {e : Expr} {td : TE} (hP : X.prog = P) (hw : X.w = w) (he : PE X e td) (hbase : attributeBase e "items" X.env (eval e X.env) = eval e X.env := by rfl) (hline : (apos.endLine == cpos.line) = true := by rfl) :
    PI X (.Tuple elts kk tpos) (.Call (.Attribute e "items" apos) [] [] cpos) (iIN P w td) := by
  subst hP hw
  refine ⟨fun pins s σ H R I h => ?_⟩
  refine wpAny_Call_method (T := "dict") (id := "dict.items") hbase rfl hline PySem.F.plainAttrs_dict PySem.F.slot_dict_items PySem.F.type_dict_items (thn (he.run pins s σ H _ I h) fun u s1 ⟨x, H1, I1, rx, d, o, xs, ex, hd, q⟩ => ?_)
  subst ex
  obtain rfl : u = Value.ref d := rx
  have g := hd.get I1.hok
  obtain ⟨_, hsys, _, hex, _, _, es, ep, vs, e1, e2, e3⟩ := id hd
  have hT : s1.TypeIs (.ref d) "dict" := ⟨o, g, hex.1⟩
  refine ⟨hT, fun a z => ?_, ?_⟩
  · cases z
    exact ⟨o, g, hex.2.1⟩
  have hlt : d < s1.heap.objs.size := Heap.lt_size g
  have I2 : Inv X pins σ H1 { s1 with heap := s1.heap.push { cls := .type "dict_items", data := .fields #[.ref d] } } := I1.kept (t' := s1.toks) fun b ob q => Heap.get?_push_of_some _ q
  have g2 : (s1.heap.push { cls := .type "dict_items", data := .fields #[.ref d] }).get? d = some o := Heap.get?_push_of_some _ g
  have fin : wpAny (model X.prog X.w) X.A (pyIter (.ref s1.heap.objs.size)) (PIE X pins σ (.Tuple elts kk tpos) R) X.xe { s1 with heap := s1.heap.push { cls := .type "dict_items", data := .fields #[.ref d] } } := by
    refine wpAny_pyIter_items_raw (d := d) ⟨_, Heap.get?_push_size _ rfl, rfl, rfl⟩ ⟨o, g2, hex, e1⟩ (pi_one (tk := s1.toks) I2 _ (turnIN (Heap.lt_size g2) e1 (sz_of e2 e3)) ⟨.none, .none, ?_⟩ q)
    exact Heap.get?_push_size _ rfl
  show wpAny _ _ (callWith cpos (.builtin "dict.items") [.ref d] [] []) _ X.xe s1
  exact method_meetsIn PySem.F.slot_dict_items PySem.F.entry_dict_items rfl (PySem.evalArgs_none ⟨rfl, hT, PySem.F.args_dict_items_1 _, _, meets_dict_items_raw d hsys, ⟨⟨es, ep, o, g, hex, e1⟩, fin⟩⟩)
theorem init_copy {prog : Program} {w : World} {A : Around} {E : Value → Shared → Prop} {s : Shared} {src : Addr} {vs : List NR} {Q : Value → Shared → Prop} (hu : A.units + 64 < cLine) (hS : (src == sysModules) = false) (hsrc : s.heap.DictOfH (nestedKind prog w) src vs) (hsz : vs.length ≤ sizeLine)
    (hap : (vs.map fun x => (nestedKind prog w).hash x.1).Nodup) (hty : ∀ x ∈ vs, s.TypeIs (.ref x.2.1) "tuple")
    (hq : ∀ h', h'.DictOfH (nestedKind prog w) s.heap.objs.size vs → Heap.SameBut s.heap.objs.size (s.heap.push { cls := .type "dict", data := .dict #[] }) h' → Q (.ref s.heap.objs.size) { s with heap := h' }) :
    wpAny (model prog w) A (call (.type "dict") [.ref src]) Q E s := by
  refine callType_codes (Q₁ := fun made s₂ => made = .ref s.heap.objs.size ∧ s₂ = { s with heap := s.heap.push { cls := .type "dict", data := .dict #[] } }) PySem.F.kt_called_dict (PySem.F.kt_typeCall_dict_1 _) PySem.F.entry_dict_init (kt_code_dict_new _ ⟨rfl, rfl⟩) ?_
  rintro made s₂ ⟨rfl, rfl⟩
  have new0 : (s.heap.push { cls := .type "dict", data := .dict #[] }).DictOfH (nestedKind prog w) s.heap.objs.size [] := Heap.DictOfH.new s.heap
  have old0 : (s.heap.push { cls := .type "dict", data := .dict #[] }).DictOfH (nestedKind prog w) src vs := by
    obtain ⟨o, es, ep, a1, a2, a3, a4, a5, a6⟩ := hsrc
    exact ⟨o, es, ep, Heap.get?_push_of_some _ a1, a2, a3, a4, fun x hx => nestedKind_stays.stays (fun b o vs n e _ => Heap.get?_push_of_some _ e) (a5 x hx), a6⟩
  have apart : s.heap.objs.size ≠ src := by
    obtain ⟨_, _, _, hg, _⟩ := hsrc
    exact Nat.ne_of_gt (Heap.lt_size hg)
  have nod : (vs.map (·.1)).Nodup := let ⟨_, _, _, _, _, _, _, _, n⟩ := hsrc; n
  refine ⟨new0.typeIs, PySem.F.args_dict_init_2 _ _, ?_⟩
  unfold Builtin.«dict.__init__»
  refine wpAny_bind ?_
  unfold Builtin.Dict.selfAndRest
  refine wpAny_bind (wpAny_notOrdered_dict new0.typeIs ?_)
  show wpAny _ _ (pure (s.heap.objs.size, [Value.ref src])) _ _ _
  refine wpAny_pure ?_
  have hty' : ∀ x ∈ vs, ({ s with heap := s.heap.push { cls := .type "dict", data := .dict #[] } } : Shared).TypeIs (.ref x.2.1) "tuple" := fun x hx => by
    obtain ⟨o, g, c⟩ := hty x hx
    exact ⟨o, Heap.get?_push_of_some _ g, c⟩
  refine updateFrom_dictH (nm := "dict.__init__") .none (hu8' hu) apart hS new0 old0 (.inr ⟨hty', hap⟩) (by simpa using hsz) fun h' d1 d2 sb => ?_
  rw [storedAllH_nil_of_nodup vs nod] at d1
  exact ⟨rfl, hq h' d1 sb⟩
/-- dict(d), a copy: no two keys hash alike -/
def rCopyN (P : Program) (w : World) : List V → Hp → VK → Prop := fun xs H Q => ∃ d kvs, xs = [.ref d] ∧ DN P w H d kvs ∧ (kvs.map fun p => p.1.hash w).Nodup ∧ ∀ p H', H p = none → Same H H' → DN P w H' p kvs → Q (.ref p) H'
theorem copyN {P : Program} {w : World} (hP : X.prog = P) (hw : X.w = w) (hu : X.A.units + 64 < cLine) : CallR X (.type "dict") (rCopyN P w) := by
  subst hP hw
  intro pins s σ H xs us Q I r h
  obtain ⟨d, kvs, rfl, ⟨ob, xs, hd, rfl⟩, hn, q⟩ := h
  obtain ⟨u, rfl, rx⟩ := vals1 r
  cases rx
  obtain ⟨vs, rel, dd⟩ := hd.dict I.hok
  have hm : (s.heap.objs.size == sysModules) = false := beq_eq_false_iff_ne.mpr (Nat.ne_of_gt I.big)
  have hfr : H s.heap.objs.size = none := I.hok.fresh (Nat.le_refl _)
  have kk := DKo.keys rel I.hok hd.2.2.2.2.2.1
  have hap : (vs.map fun x => (nestedKind X.prog X.w).hash x.1).Nodup := by
    have e : (vs.map fun x => (nestedKind X.prog X.w).hash x.1) = (kvO xs).map fun p => p.1.hash X.w := by
      have e1 := congrArg (List.map fun k : NestedKey => k.hash X.w) (rel_keys rel)
      rw [List.map_map, List.map_map] at e1
      unfold kvO
      rw [List.map_map]
      exact e1
    rw [e]
    exact hn
  have hl := hd.2.2.1
  have hlen : vs.length = xs.length := rel.length.symm
  refine init_copy hu hd.2.1 dd (by have hz : (100000 : Nat) < sizeLine := by rw [sizeLine_eq]; decide
                                    omega) hap (fun x hx => nestedKind_stays.tuple (kk x hx)) fun h' d1 sb => ?_
  obtain ⟨o', es, ep, g, a2, a3, a4, _, a6⟩ := d1
  refine ⟨.ref s.heap.objs.size, upd H s.heap.objs.size (rawO s.heap.objs.size o'), I.laid (t' := s.toks) (fun b u e => (sb.2 b (Nat.ne_of_lt (Heap.lt_size e))).trans (Heap.get?_push_of_some _ e)) (Nat.le_refl _) (raw_ok g), rfl, ?_⟩
  exact q _ _ hfr (same_new (Same.refl _) hfr) (dn_of hm hl upd_same a2 a3 a4 rel (fun x hx => (hd.2.2.2.2.2.1 x hx).same (same_new (Same.refl _) hfr)) a6)
/-- {k: v} -/
def tDispN (P : Program) (w : World) (tk tv : TE) : TE := fun σ H Q => ∀ p H0, H p = none → Same H H0 → (∀ c, c ≠ p → H0 c = H c) → DN P w H0 p [] → tk σ H0 fun x H1 => tv σ H1 fun y H2 => ∃ b k, x = .ref b ∧ KeyAt H2 b k ∧ DN P w H2 p [] ∧
  ∀ H', (∀ c, c ≠ p → H' c = H2 c) → DN P w H' p [(k, y)] → Q (.ref p) H'
theorem pe_dispN {P : Program} {w : World} {k v : Expr} {pos : Pos} {tk tv : TE} (hP : X.prog = P) (hw : X.w = w) (hu : X.A.units + 64 < cLine) (hk : PE X k tk) (hv : PE X v tv) : PE X (.Dict [some k] [v] pos) (tDispN P w tk tv) := by
  subst hP hw
  refine ⟨fun pins s σ H Q I q => ?_⟩
  have hn : H s.heap.objs.size = none := I.hok.fresh (Nat.le_refl _)
  have hm : (s.heap.objs.size == sysModules) = false := beq_eq_false_iff_ne.mpr (Nat.ne_of_gt I.big)
  have I1 : Inv X pins σ (upd H s.heap.objs.size (rawO s.heap.objs.size { cls := .type "dict", data := .dict #[] })) { s with heap := s.heap.push { cls := .type "dict", data := .dict #[] } } :=
    I.laid (t' := s.toks) (fun _ _ q => Heap.get?_push_of_some _ q) (Nat.le_refl _) (raw_ok (Heap.get?_push_size _ rfl))
  have D0 : DN X.prog X.w (upd H s.heap.objs.size (rawO s.heap.objs.size { cls := .type "dict", data := .dict #[] })) s.heap.objs.size [] :=
    dn_of (ys := []) (vs := []) hm (by simp) upd_same ⟨rfl, rfl, rfl⟩ rfl rfl .nil (fun _ h => nomatch h) List.nodup_nil
  have q0 := q _ _ hn (same_new (Same.refl _) hn) (fun c hc => upd_ne hc) D0
  have hroom : (nestedKind X.prog X.w).room X.A := by
    show X.A.units + 8 < cLine
    omega
  have run := (pps_cons (pos := pos) hk hv (pps_nil (X := X) (pos := pos))).run pins _ σ _ (fun ps H2 => match ps with
    | [(x, y)] => ∃ b k, x = .ref b ∧ KeyAt H2 b k ∧ DN X.prog X.w H2 s.heap.objs.size [] ∧ ∀ H', (∀ c, c ≠ s.heap.objs.size → H' c = H2 c) → DN X.prog X.w H' s.heap.objs.size [(k, y)] → Q (.ref s.heap.objs.size) H'
    | _ => False) I1 q0
  have one : pairTrees [some k] [v] X.env pos ≠ [] := by simp [pairTrees]
  have few : (pairTrees [some k] [v] X.env pos).length ≤ 15 := by simp [pairTrees]
  rw [arm_eval_Dict, zip_pairTrees [some k] [v] X.env pos rfl rfl, dictDisplay_pairs _ one (by omega)]
  refine wpAny_bind (wpAny_standAt (wpAny_bind (wpAny_subDictH (knd := nestedKind X.prog X.w) (Q := fun d s3 => wpAny (model X.prog X.w) X.A (pure (Value.ref d)) (EP X pins σ Q) X.xe s3) hroom few (thn run fun ws s2 ⟨ps, H2, I2, rel, q2⟩ => ?_))))
  match ps, q2, rel with
  | [(x, y)], ⟨b, kk, e1, hk2, ⟨o0, xs0, hd0, hx0⟩, q3⟩, .cons (b := (u1, u2)) ⟨ra, rb⟩ .nil =>
    subst e1
    simp only at ra rb
    obtain rfl : u1 = Value.ref b := ra
    obtain rfl : xs0 = [] := by
      cases xs0 with
      | nil => rfl
      | cons a l => exact nomatch hx0
    obtain ⟨vs0, rel0, dd0⟩ := hd0.dict I2.hok
    cases rel0
    refine ⟨[(kk, b, u2)], ⟨rfl, rfl, hk2.is I2.hok, trivial⟩, dd0, fun h' tk' dd' sb => ?_⟩
    obtain ⟨o', es, ep, g, a2, a3, a4, a5, a6⟩ := dd'
    have hent : storedAllH [] [((kk, b, u2) : NR)] = [(kk, b, u2)] := by simp [storedAllH, storedH, atKey]
    rw [hent] at a4
    refine wpAny_pure ⟨.ref s.heap.objs.size, upd H2 s.heap.objs.size (rawO s.heap.objs.size o'), I2.write (t' := tk') (x := s.heap.objs.size) (e := s.heap.objs.size) (by rw [hd0.1]; exact True.intro) (.inl rfl) (fun c q hc z => (sb.2 c hc).trans z) ⟨_, g⟩ (raw_ok g), rfl, ?_⟩
    refine q3 _ (fun c hc => upd_ne hc) ?_
    refine dn_of (ys := [(kk, b, y)]) (vs := [(kk, b, u2)]) hm (by simp) upd_same a2 a3 a4 (.cons ⟨rfl, rfl, rb⟩ .nil) (fun x hx => ?_) (by simp)
    rw [List.mem_singleton.mp hx]
    exact hk2.mono fun c ys hc => upd_raw hd0.1 hc
/-- d.get(k, x), as an expression -/
def tGetN (P : Program) (w : World) (td ty tx : TE) : TE := fun σ H Q => td σ H fun x H1 => (∃ d kvs, x = .ref d ∧ DN P w H1 d kvs) ∧ ty σ H1 fun y H2 => tx σ H2 fun z H3 => rGetN P w x [y, z] H3 Q
theorem pe_getN {P : Program} {w : World} {o e f : Expr} {apos cpos : Pos} {td ty tx : TE} (hP : X.prog = P) (hw : X.w = w) (hu : X.A.units + 64 < cLine) (ho : PE X o td) (he : PE X e ty) (hf : PE X f tx) (m : M2 X o "get" apos e f cpos) :
    PE X (.Call (.Attribute o "get" apos) [e, f] [] cpos) (tGetN P w td ty tx) := by
  subst hP hw
  refine ⟨fun pins s σ H Q I h => ?_⟩
  refine wpAny_Call_method m.base m.few m.line PySem.F.plainAttrs_dict PySem.F.slot_dict_get PySem.F.type_dict_get (thn (ho.run pins s σ H _ I h) fun u s1 ⟨x, H1, I1, rx, ⟨d, kvs, ex, ⟨ob, xs, hd, _⟩⟩, q1⟩ => ?_)
  subst ex
  obtain rfl : u = Value.ref d := rx
  have g := hd.get I1.hok
  refine ⟨⟨ob, g, hd.2.2.2.1.1⟩, fun a z => ?_, ?_⟩
  · cases z
    exact ⟨ob, g, hd.2.2.2.1.2.1⟩
  rw [m.trees]
  refine Calls.callWith_builtin rfl (Calls.evalArgs_plain (Calls.spliced_cons (thn (he.run pins s1 σ H1 _ I1 q1) fun iv s2 ⟨y, H2, I2, ry, q2⟩ => Calls.spliced_cons (thn (hf.run pins s2 σ H2 _ I2 q2) fun fv s3 ⟨z, H3, I3, rz, q3⟩ => Calls.spliced_nil ?_))))
  exact getN rfl rfl hu pins s3 σ H3 (.ref d) [y, z] (.ref d) [iv, fv] Q I3 rfl (.cons ry (.cons rz .nil)) q3
/-- what is never reached -/
def tNo : TE := fun _ _ _ => False
theorem pe_no {e : Expr} : PE X e tNo := ⟨fun _ _ _ _ _ _ h => h.elim⟩
end
/-! ### keys of three parts -/
theorem keyT3 {H : Hp} {b : Addr} {x y z : V} {k1 k2 k3 : NestedKey} (h : H b = some (.tup [x, y, z])) (h1 : NkV H k1 x) (h2 : NkV H k2 y) (h3 : NkV H k3 z) (d1 : k1.depth ≤ 7 := by decide) (d2 : k2.depth ≤ 7 := by decide) (d3 : k3.depth ≤ 7 := by decide) : KeyAt H b (.tup [k1, k2, k3]) :=
  ⟨.tup h (.cons h1 (.cons h2 (.cons h3 .nil))), by simp only [NestedKey.depth, NestedKey.depthAll]; omega⟩
theorem keyT2 {H : Hp} {b : Addr} {x y : V} {k1 k2 : NestedKey} (h : H b = some (.tup [x, y])) (h1 : NkV H k1 x) (h2 : NkV H k2 y) (d1 : k1.depth ≤ 7 := by decide) (d2 : k2.depth ≤ 7 := by decide) : KeyAt H b (.tup [k1, k2]) :=
  ⟨.tup h (.cons h1 (.cons h2 .nil)), by simp only [NestedKey.depth, NestedKey.depthAll]; omega⟩
theorem keyT2_inv {H : Hp} {b : Addr} {k1 k2 : NestedKey} (h : KeyAt H b (.tup [k1, k2])) : ∃ x y, H b = some (.tup [x, y]) ∧ NkV H k1 x ∧ NkV H k2 y := by
  obtain ⟨h, _⟩ := h
  cases h with
  | tup h1 h2 =>
    cases h2 with
    | cons a b =>
      cases b with
      | cons c d =>
        cases d
        exact ⟨_, _, h1, a, c⟩
theorem keyT3_inv {H : Hp} {b : Addr} {k1 k2 k3 : NestedKey} (h : KeyAt H b (.tup [k1, k2, k3])) : ∃ x y z, H b = some (.tup [x, y, z]) ∧ NkV H k1 x ∧ NkV H k2 y ∧ NkV H k3 z := by
  obtain ⟨h, _⟩ := h
  cases h with
  | tup h1 h2 =>
    cases h2 with
    | cons a b =>
      cases b with
      | cons c d =>
        cases d with
        | cons e f =>
          cases f
          exact ⟨_, _, _, h1, a, c, e⟩
/-- None or an int -/
def oK : Option Int → NestedKey
  | none => .none
  | some i => .num i
def oV : Option Int → V
  | none => .non
  | some i => .int i
theorem nk_o {H : Hp} (o : Option Int) : NkV H (oK o) (oV o) := by
  cases o with
  | none => exact .non
  | some i => exact .int i
theorem nk_int {H : Hp} {i : Int} {v : V} (h : NkV H (.num i) v) : v = .int i := by cases h; rfl
theorem nk_oinv {H : Hp} {o : Option Int} {v : V} (h : NkV H (oK o) v) : v = oV o := by
  cases o with
  | none => cases h; rfl
  | some i => cases h; rfl
theorem oK_depth (o : Option Int) : (oK o).depth = 0 := by cases o <;> rfl
theorem oK_inj {a b : Option Int} (h : oK a = oK b) : a = b := by
  cases a with
  | none =>
    cases b with
    | none => rfl
    | some j =>
      have h' : NestedKey.none = NestedKey.num j := h
      cases h'
  | some i =>
    cases b with
    | none =>
      have h' : NestedKey.num i = NestedKey.none := h
      cases h'
    | some j =>
      have h' : NestedKey.num i = NestedKey.num j := h
      cases h'
      rfl
/-! ### range with a step, item of a list that is written at -/
section
variable {X : Cx} {tg : Expr}
def iRg3 (ta : TA) : TI := fun σ H R => iRng3 ta σ H fun J2 H1 => ∃ (i c : Int) (n : Nat), J2 = Itc i c n ∧ R (ItG n (fun _ => True) (yV fun k => .int (i + (k : Nat) * c))) H1
theorem pi_rg3 {a b c : Expr} {ta : TA} {p pos : Pos} (hg : Gl X "range") (hm : X.mg "range" = none) (ha : PA X [a, b, c] ta)
    (hs : starEach [a, b, c] X.env = (false, eval a X.env) :: starEach [b, c] X.env := by rfl) (hpl : (backTo pos (starEach [b, c] X.env)).any (·.1) = false := by rfl) :
    PI X tg (.Call (.Name "range" p) [a, b, c] [] pos) (iRg3 ta) := by
  refine ⟨fun pins s σ H R I h => thn ((pi_range3 (tg := tg) hg hm ha hs hpl).run pins s σ H _ I h) fun iv0 s0 h0 => thn h0 fun itv s2 ⟨it, fp, tn, J2, H2, e, I2, T, st, fr, i, c, n, e2, r⟩ => ?_⟩
  subst e2
  exact ⟨it, fp, tn, ItG n (fun _ => True) (yV fun k => .int (i + (k : Nat) * c)), H2, e, I2, turn_imp (J := Itc i c n) (J' := ItG n (fun _ => True) (yV fun k => .int (i + (k : Nat) * c))) T (fun i H z => z.1) (fun i H z => Nat.le_of_eq z.1.symm) (fun i H x H' _ y => ⟨y.2, y.1⟩), st, fr, r⟩
def rGetL : V → V → Hp → VK → Prop := fun o i H Q => ∃ (p : Addr) (xs : List V) (k : Nat) (v : V), o = .ref p ∧ i = .int (k : Nat) ∧ H p = some (.lst xs) ∧ xs[k]? = some v ∧ Q v H
theorem getL : PGet X rGetL := by
  intro pins s σ H o i ov iv Q I ro ri h
  obtain ⟨p, xs, k, v, rfl, rfl, hp, hv, q⟩ := h
  cases ro
  obtain ⟨t, rfl⟩ := ri
  obtain ⟨its, r, pl, hz⟩ := I.list (SqL.of hp)
  obtain ⟨u, hu, ru⟩ := r.get hv
  have hk := (List.getElem?_eq_some_iff.mp hu).1
  have hl : its.toArray.size = its.length := List.size_toArray
  have hlen := r.length
  have big := sizeLine_eq
  refine wpAny_getItem_list (x := u) pl.isList (by omega) (by omega) (by simpa using hu) ?_
  exact ⟨v, H, I, ru, q⟩
end
theorem tSeq_def (t u : TS) (D : Ends) (σ : L2.St) (H : Hp) : tSeq t u D σ H = t { D with nx := fun σ' H' => u D σ' H' } σ H := rfl
/-! ### all but one list stands -/
def SameX (L : Addr) (H H' : Hp) : Prop := ∀ b o, H b = some o → b ≠ L → H' b = some o
theorem SameX.refl (L : Addr) (H : Hp) : SameX L H H := fun _ _ h _ => h
theorem SameX.same {L : Addr} {H H1 H2 : Hp} (x : SameX L H H1) (e : Same H1 H2) : SameX L H H2 := fun b o h n => e b o (x b o h n)
theorem SameX.upd {L : Addr} {H H1 : Hp} {o : HO} (x : SameX L H H1) : SameX L H (upd H1 L o) := fun b u h n => by
  rw [upd_ne n]
  exact x b u h n
theorem SameX.new {L p : Addr} {H H1 : Hp} {o : HO} (x : SameX L H H1) (hp : H1 p = none) : SameX L H (L2.upd H1 p o) := x.same (same_up (Same.refl _) hp)
theorem SameX.trans {L : Addr} {H H1 H2 : Hp} (x : SameX L H H1) (y : SameX L H1 H2) : SameX L H H2 := fun b o h n => y b o (x b o h n) n
theorem SameX.out {L : Addr} {H0 H H' : Hp} (e : Same H0 H) (x : SameX L H H') (h : H0 L = none) : Same H0 H' := fun b o hb => x b o (e b o hb) (ne_of_none hb h)
theorem SameX.tup {L b : Addr} {H H' : Hp} {acc xs : List V} (x : SameX L H H') (hL : H L = some (.lst acc)) (h : H b = some (.tup xs)) : H' b = some (.tup xs) := x _ _ h fun e => by
  rw [e, hL] at h
  exact nomatch h
theorem DN.x {P : Program} {w : World} {H H' : Hp} {d L : Addr} {acc : List V} {kvs : List (NestedKey × V)} (x : DN P w H d kvs) (hL : H L = some (.lst acc)) (e : SameX L H H') : DN P w H' d kvs := by
  obtain ⟨o, ho⟩ := x.raw
  refine x.but ((e _ _ ho fun z => ?_).trans ho.symm) fun b ys hb => e.tup hL hb
  rw [z, hL] at ho
  exact nomatch ho
theorem DN.kx {P : Program} {w : World} {H H' : Hp} {d L : Addr} {kvs : List (NestedKey × V)} (x : DN P w H d kvs) (hne : d ≠ L) (hL : ∀ xs, H L ≠ some (.tup xs)) (e : SameX L H H') : DN P w H' d kvs := by
  obtain ⟨o, ho⟩ := x.raw
  exact x.but ((e _ _ ho hne).trans ho.symm) fun b ys hb => e _ _ hb fun z => hL ys (z ▸ hb)
theorem DKo.kx {P : Program} {w : World} {H H' : Hp} {d L : Addr} {o : Obj} {es : List NE} (x : DKo P w H d o es) (hne : d ≠ L) (hL : ∀ xs, H L ≠ some (.tup xs)) (e : SameX L H H') : DKo P w H' d o es :=
  x.but ((e _ _ x.1 hne).trans x.1.symm) fun b ys hb => e _ _ hb fun z => hL ys (z ▸ hb)
theorem raw_nt {H : Hp} {d : Addr} {o : Obj} (h : H d = some (rawO d o)) : ∀ xs, H d ≠ some (.tup xs) := fun xs z => by
  rw [h] at z
  exact nomatch z
theorem lst_nt {H : Hp} {d : Addr} {l : List V} (h : H d = some (.lst l)) : ∀ xs, H d ≠ some (.tup xs) := fun xs z => by
  rw [h] at z
  exact nomatch z
theorem DN.nt {P : Program} {w : World} {H : Hp} {d : Addr} {kvs : List (NestedKey × V)} (x : DN P w H d kvs) : ∀ xs, H d ≠ some (.tup xs) := by
  obtain ⟨o, ho⟩ := x.raw
  exact raw_nt ho
theorem SameX.of {L : Addr} {H H' : Hp} (e : ∀ c, c ≠ L → H' c = H c) : SameX L H H' := fun b o h n => by
  rw [e b n]
  exact h
theorem DN.ne_lst {P : Program} {w : World} {H : Hp} {d L : Addr} {l : List V} {kvs : List (NestedKey × V)} (x : DN P w H d kvs) (h : H L = some (.lst l)) : d ≠ L := by
  obtain ⟨o, ho⟩ := x.raw
  intro z
  rw [z, h] at ho
  exact nomatch ho
theorem DN.ne_none {P : Program} {w : World} {H : Hp} {d L : Addr} {kvs : List (NestedKey × V)} (x : DN P w H d kvs) (h : H L = none) : d ≠ L := by
  obtain ⟨o, ho⟩ := x.raw
  exact ne_of_none ho h
theorem kvO_at {xs : List NE} {kvs : List (NestedKey × V)} (h : kvO xs = kvs) {i : Nat} (hi : i < xs.length) : ∃ k v, kvs[i]? = some (k, v) ∧ (xs.getD i (.none, 0, .non)).1 = k ∧ (xs.getD i (.none, 0, .non)).2.2 = v ∧ xs.getD i (.none, 0, .non) ∈ xs := by
  subst h
  refine ⟨_, _, ?_, rfl, rfl, getD_mem hi⟩
  unfold kvO
  rw [List.getElem?_map, List.getD_eq_getElem?_getD, List.getElem?_eq_getElem hi]
  rfl
end G


set_option Elab.async false
set_option linter.all false
set_option maxRecDepth 100000
set_option maxHeartbeats 4000000
set_option pp.deepTerms true
set_option pp.maxSteps 100000
set_option format.width 230
namespace G
open PySem PySem.Spec PyProof.Rows L2
local macro_rules | `(tactic| walk_at "rd") => `(tactic| simp only [cxOf_K, tSeq, tIfS, tTest, tB, tCB, tCons, tNil, tC, tVar, tOp, tUn, tAndV, tOrV, tNotV, tAnd, tOr, tNot, tIf, tChain, tRet, tRetN, tAsg, gName, tDrop, tNext, tCallS, WE, rI0, rI, rU, L2.start, tYes, tLc, tFor, gTup, gCons, gNil, tPar, tPar3, tAug, ipI, tWidth, tCall, tMeth, tMake, tFld, tRows, tTable, sFld, rMulT, rSumT, gSub, tBM, rAppend, rSetL, rExtend, rSlL, rSlQ, tCol, Int.toNat_natCast,  tSl, tNoPart, tPart, tTup, tLst, tNever, itu_g, sDPut, tDNewK, tDNewN, tDispN, rSetN, rIxN, rInN, tGetN, rGetN, iKN, iIN, iRg3, iRng3, rGetL, tAugS, tNo,
  List.map_cons, List.map_nil, List.length_cons, List.length_nil, List.cons_append, List.nil_append, List.replicate, Nat.reduceAdd, Nat.reduceSub, Nat.zero_add, Nat.sub_self,
  List.getElem?_cons_zero, List.getElem?_cons_succ, List.set_cons_zero, List.set_cons_succ, wipe, Option.some.injEq, exists_eq_left', exists_eq_left, V.bl.injEq, V.int.injEq, ref_inj, ty_inj, if_true, if_false, Bool.false_eq_true, Bool.true_eq_false, exists_const, exists_and_left, true_and, and_true, List.cons.injEq,
  isB_int, isB_bool, isB_tuple, isB_list, isT_at, iSq, iRg1, iRg2, iZ2, iZ3, iEn])
local macro_rules | `(tactic| walk_at "r1") => `(tactic| simp only [cxOf_K, tSeq, tIfS, tTest, tB, tCB, tCons, tNil, tC, tVar, tOp, tUn, tAndV, tOrV, tNotV, tAnd, tOr, tNot, tIf, tChain, tRet, tRetN, tAsg, gName, tDrop, tNext, tCallS, WE, rI0, rI, rU, L2.start, tYes, gTup, gCons, gNil, tPar, tPar3, tAug, ipI, tWidth, tCall, tMeth, tMake, tFld, tRows, tTable, sFld, rMulT, rSumT, gSub, tBM, rAppend, rSetL, rExtend, rSlL, rSlQ, tCol, Int.toNat_natCast,  tSl, tNoPart, tPart, tTup, tLst, tNever, itu_g, sDPut, tDNewK, tDNewN, tDispN, rSetN, rIxN, rInN, tGetN, rGetN, iKN, iIN, iRg3, iRng3, rGetL, tAugS, tNo,
  List.map_cons, List.map_nil, List.length_cons, List.length_nil, List.cons_append, List.nil_append, List.replicate, Nat.reduceAdd, Nat.reduceSub, Nat.zero_add, Nat.sub_self,
  List.getElem?_cons_zero, List.getElem?_cons_succ, List.set_cons_zero, List.set_cons_succ, wipe, Option.some.injEq, exists_eq_left', exists_eq_left, V.bl.injEq, V.int.injEq, ref_inj, ty_inj, if_true, if_false, Bool.false_eq_true, Bool.true_eq_false, exists_const, exists_and_left, true_and, and_true, List.cons.injEq,
  isB_int, isB_bool, isB_tuple, isB_list, isT_at, iSq, iRg1, iRg2, iZ2, iZ3, iEn])
local macro_rules | `(tactic| walk_at "r0") => `(tactic| simp only [cxOf_K, tIfS, tTest, tB, tCB, tCons, tNil, tC, tVar, tOp, tUn, tAndV, tOrV, tNotV, tAnd, tOr, tNot, tIf, tChain, tRet, tRetN, tAsg, gName, tDrop, tNext, tCallS, WE, rI0, rI, rU, L2.start, tYes, gTup, gCons, gNil, tPar, tPar3, tAug, ipI, tWidth, tCall, tMeth, tMake, tFld, tRows, tTable, sFld, rMulT, rSumT, gSub, tBM, rAppend, rSetL, rExtend, rSlL, rSlQ, tCol, Int.toNat_natCast,  tSl, tNoPart, tPart, tTup, tLst, tNever, itu_g, sDPut, tDNewK, tDNewN, tDispN, rSetN, rIxN, rInN, tGetN, rGetN, iKN, iIN, iRg3, iRng3, rGetL, tAugS, tNo,
  List.map_cons, List.map_nil, List.length_cons, List.length_nil, List.cons_append, List.nil_append, List.replicate, Nat.reduceAdd, Nat.reduceSub, Nat.zero_add, Nat.sub_self,
  List.getElem?_cons_zero, List.getElem?_cons_succ, List.set_cons_zero, List.set_cons_succ, wipe, Option.some.injEq, exists_eq_left', exists_eq_left, V.bl.injEq, V.int.injEq, ref_inj, ty_inj, if_true, if_false, Bool.false_eq_true, Bool.true_eq_false, exists_const, exists_and_left, true_and, and_true, List.cons.injEq,
  isB_int, isB_bool, isB_tuple, isB_list, isT_at, iSq, iRg1, iRg2, iZ2, iZ3, iEn])
local macro_rules | `(tactic| walk_at "st") => `(tactic| rw [tSeq_def])
local macro_rules | `(tactic| walk_at "lp") => `(tactic| first | rw [tFor_def] | rw [tLc_def] | rw [tWhile_def])
local macro_rules | `(tactic| walk_at "ex") => `(tactic| simp only [List.cons.injEq, and_true, true_and, and_assoc, exists_and_left, exists_eq_left', exists_eq_left, exists_eq_right, exists_const, V.int.injEq, V.bl.injEq, ref_inj, Bool.not_true, Bool.not_false, Bool.false_eq_true, if_true, if_false, Bool.true_eq_false])
section
variable {P : Program} {w : World} {K : PySem.W.Frag} {mg : Str → Option Value} {base : Heap} {a : Ad}
/-- check_thin(table, place, many) -/
def spTh (a : Ad) : Sp := fun vs H Q E => ∃ v p m, vs = [v, p, m] ∧ Tg a.CT H v ∧ Tg a.CT H p ∧ Tg a.CT H m ∧ (isT a.CT H v = false → Rz E H a.cBT) ∧ (isT a.CT H v = true → ∃ R w, Tb a.CT H v R ∧ Shp R w ∧
  (isNum p 0 (w - 1) = false → Rz E H a.cBC) ∧ (isNum p 0 (w - 1) = true → isNum m 1 R.length = false → Rz E H a.cBI) ∧ (isNum p 0 (w - 1) = true → isNum m 1 R.length = true → Q .non H))
abbrev N_check_thin : List Str := ["table", "place", "many"]
theorem ok_check_thin (D : Def K mg "check_thin" 62) (T : Txt K mg a) (M : TabM P w K mg base a.CT) (c_is_number : CalX P w K mg base 1 "is_number" (spNum a.CT)) (c_check_table : CalX P w K mg base 1 "check_table" (spCT a)) (c_check_column : CalX P w K mg base 3 "check_column" (spCC a)) : CalX P w K mg base 4 "check_thin" (spTh a) := by
  refine calx (N := N_check_thin) (ps := ["table", "place", "many"]) D (by decide +kernel) (fun vs H Q E h => ?_) (fun _ _ _ _ _ _ us hl => match us, hl with | [_, _, _], _ => rfl) (fun f cdv A outer s H vs Q E hr nd tk pn h => ⟨_, (pss_cons (ps_expr (pe_cx c_check_table hr (by decide) tk (pa_cons (pv 0) pa_nil)))
      (pss_cons (ps_expr (pe_cx c_check_column hr (by decide) tk (pa_cons (pv 0) (pa_cons (pv 1) pa_nil))))
      (pss_one (ps_if (pt_not (pt_val (pe_cx c_is_number hr (by decide) tk (pa_cons (pv 2) (pa_cons pe_int (pa_cons (pe_callB (call_lenK (K := K) rfl M hr (by decide)) (by rfl) T.len bi_len (pa_cons (pv 0) pa_nil)) pa_nil))))))
      (pss_one (ps_rz T.BadIndex tk))
      pss_nil)))), ?_⟩)
  · obtain ⟨_, _, _, rfl, _⟩ := h
    rfl
  · obtain ⟨v, p, m, rfl, gv, gp, gm, no, yes⟩ := h
    clear tk pn nd hr
    walk_at "r1"
    simp only [spNum, spCT, spCC]
    walk_at "ex"
    refine ⟨gv, fun hT => ?_, fun hT => no hT _ (Same.refl H)⟩
    obtain ⟨R, w, t, S, q1, q2, q3⟩ := yes hT
    obtain ⟨row, R', hR, hrw⟩ := shp_cons S
    refine ⟨row, R', hR ▸ t, gp, ?_⟩
    rw [hrw]
    refine ⟨fun hp => len_tb t ⟨_, rfl, gm, ?_⟩, fun hp => q1 hp _ (Same.refl H)⟩
    cases h : isNum m 1 R.length with
    | true => simp only [Bool.not_true, Bool.false_eq_true, if_false]; exact q3 hp h
    | false => simp only [Bool.not_false, if_true]; exact q2 hp h _ (Same.refl H)
/-! ### the floors of thinning -/
/-- a state: at, left, last -/
abbrev St3 := Nat × Nat × Option Int
def k3 (x : St3) : NestedKey := .tup [.num (x.1 : Nat), .num (x.2.1 : Nat), oK x.2.2]
theorem key3 {H : Hp} {b : Addr} {i j : Int} {at_ left : Nat} {last : Option Int} (h : H b = some (.tup [.int i, .int j, oV last])) (hi : i = (at_ : Nat)) (hj : j = (left : Nat)) : KeyAt H b (k3 (at_, left, last)) := by
  subst hi hj
  exact keyT3 h (.int _) (.int _) (nk_o last) (Nat.zero_le _) (Nat.zero_le _) (by rw [oK_depth]; exact Nat.zero_le _)
theorem k3_inj {x y : St3} (h : k3 x = k3 y) : x = y := by
  obtain ⟨a1, l1, o1⟩ := x
  obtain ⟨a2, l2, o2⟩ := y
  unfold k3 at h
  simp only [NestedKey.tup.injEq, List.cons.injEq, NestedKey.num.injEq, and_true] at h
  obtain ⟨h1, h2, h3⟩ := h
  rw [oK_inj h3, show a1 = a2 by omega, show l1 = l2 by omega]
/-- best_in(values, found, state) -/
def spBi (P : Program) (w : World) : Sp := fun vs H Q _ => ∃ (l : Addr) (xs : List Int) (d : Addr) (kvs : List (NestedKey × V)) (b : Addr) (at_ left : Nat) (last : Option Int), vs = [.ref l, .ref d, .ref b] ∧ H l = some (.lst (xs.map V.int)) ∧ xs.length ≤ 10 ∧ DN P w H d kvs ∧
  H b = some (.tup [.int (at_ : Nat), .int (left : Nat), oV last]) ∧ at_ ≤ xs.length ∧
  (at_ < xs.length → (∀ k v, valV kvs k = some v → ∃ z, v = .int z) ∧ (∀ v, valV kvs (k3 (at_ + 1, left, last)) = some v → left = 0 → v = .int 0) ∧ (left = 0 → (valV kvs (k3 (at_ + 1, left, last))).isSome = true) ∧
    (0 < left → (valV kvs (k3 (at_ + 1, left - 1, some (xs.getD at_ 0)))).isSome = true)) ∧
  ∀ z H', Same H H' → (left = 0 → z = 0) → Q (.int z) H'
abbrev N_best_in : List Str := ["values", "found", "state", "at", "left", "last", "rows"]
theorem ok_best_in (D : Def K mg "best_in" 64) (T : Txt K mg a) (M : TabM P w K mg base a.CT) : CalX P w K mg base 3 "best_in" (spBi P w) := by
  refine calx (N := N_best_in) (ps := ["values", "found", "state"]) D (by decide +kernel) (fun vs H Q E h => ?_) (fun _ _ _ _ _ _ us hl => match us, hl with | [_, _, _], _ => rfl) (fun f cdv A outer s H vs Q E hr nd tk pn h => ⟨_, (pss_cons (ps_asg (pv 2) (pg_tupK (K := K) (n := 3) rfl rfl (pgs_cons (pg_name (i := 3) nd rfl (Or.inl rfl)) (pgs_cons (pg_name (i := 4) nd rfl (Or.inl rfl)) (pgs_cons (pg_name (i := 5) nd rfl (Or.inl rfl)) pgs_nil)))))
      (pss_cons (ps_if (pt_cmpR op_eq (pv 3) (pe_callB (call_lenK (K := K) rfl M hr (by decide)) (by rfl) T.len bi_len (pa_cons (pv 0) pa_nil)) (nomark _))
      (pss_one (ps_ret pe_int))
      pss_nil)
      (pss_cons (ps_set (i := 6) nd rfl (Or.inl rfl) (pe_lst pa_nil))
      (pss_cons (ps_if (pt_cmpR (inN (P := P) (w := w) rfl rfl hr.units) (pe_tup (pa_cons (pe_op op_add (pv 3) pe_int) (pa_cons (pv 4) (pa_cons (pv 5) pa_nil)))) (pv 1) rfl)
      (pss_one (ps_expr (pe_bm PySem.F.plainAttrs_list PySem.F.slot_list_append PySem.F.type_list_append mt_append (pv 6) (pa_cons (pe_ix (ixN' (P := P) (w := w) rfl rfl hr.units) (pv 1) (pe_tup (pa_cons (pe_op op_add (pv 3) pe_int) (pa_cons (pv 4) (pa_cons (pv 5) pa_nil)))) (fun _ _ => rfl)) pa_nil))))
      pss_nil)
      (pss_cons (ps_if (pt_cmpR op_gt (pv 4) pe_int (nomark _))
      (pss_one (ps_expr (pe_bm PySem.F.plainAttrs_list PySem.F.slot_list_append PySem.F.type_list_append mt_append (pv 6) (pa_cons (pe_op op_add (pe_ix (ixN' (P := P) (w := w) rfl rfl hr.units) (pv 1) (pe_tup (pa_cons (pe_op op_add (pv 3) pe_int) (pa_cons (pe_op op_sub (pv 4) pe_int) (pa_cons (pe_ix (ixK (K := K) rfl) (pv 0) (pv 3) (fun _ _ => rfl)) pa_nil)))) (fun _ _ => rfl)) (pe_callTy crB_int (by rfl) T.int bi_int (pa_cons (pe_cmpR op_ne (pe_ix (ixK (K := K) rfl) (pv 0) (pv 3) (fun _ _ => rfl)) (pv 5) (nomark _)) pa_nil))) pa_nil))))
      pss_nil)
      (pss_one (ps_ret (pe_callB (crK_min (K := K) rfl rfl) (by rfl) T.min bi_min (pa_cons (pv 6) pa_nil))))))))), ?_⟩)
  · obtain ⟨_, _, _, _, _, _, _, _, rfl, _⟩ := h
    rfl
  · obtain ⟨l, xs, d, kvs, b, at_, left, last, rfl, hl, hn, hd, hb, hat, hk, q⟩ := h
    clear tk pn nd hr
    walk_at "st"
    walk_at "r0"
    refine un3s hb ?_
    walk_at "st"
    walk_at "r0"
    refine len_l hl ⟨rfl, _, rfl, ?_⟩
    rw [List.length_map, dec_int]
    by_cases hc : at_ = xs.length
    · rw [if_pos (by simp [hc])]
      exact q 0 H (Same.refl H) fun _ => rfl
    rw [if_neg (by simp; omega)]
    obtain ⟨k1, k2, k3', k4⟩ := hk (by omega)
    walk_at "st"
    walk_at "r0"
    refine ⟨by decide, fun L hL => ?_⟩
    have e1 : Same H (upd H L (.lst [])) := same_new (Same.refl _) hL
    have hf1 : upd H L (.lst []) L = some (.lst ([] : List V)) := upd_same
    generalize upd H L (.lst []) = H1 at e1 hf1 ⊢
    generalize hB : tSeq (tIfS (tTest (tOp (rI0 fun i j => V.bl (decide (j < i))) (tVar 4) (tC (V.int 0)))) _ _) _ = B
    have hl1 := e1 _ _ hl
    have hd1 := hd.same e1
    have hLl : l ≠ L := ne_of_none hl hL
    have rest : ∀ H' (acc : List Int), SameX L H1 H' → H' L = some (.lst (acc.map V.int)) → acc.length ≤ 1 → (left = 0 → acc ≠ [] ∧ ∀ y ∈ acc, y = 0) →
        B { nx := fun x H' => Q V.non H', rt := Q } [some (.ref l), some (.ref d), some (.ref b), some (.int at_), some (.int left), some (oV last), some (.ref L)] H' := by
      intro H2 acc e2 hL2 hal h0
      subst hB
      walk_at "st"
      walk_at "r0"
      have hl2 := e2 _ _ hl1 hLl
      have hd2 := hd1.x hf1 e2
      by_cases hleft : left = 0
      · subst hleft
        obtain ⟨h1, h2⟩ := h0 rfl
        rw [if_neg (by simp)]
        refine min_l hL2 (List.length_pos_iff.mpr h1) fun m hm _ => q m H2 (SameX.out e1 e2 hL) fun _ => h2 m hm
      · rw [if_pos (by simp; omega)]
        refine ⟨tyL hL2, ix_l hl2 (atI_ints (by omega)) ⟨by decide, fun p hp => ?_⟩⟩
        have e3 := same_up (o := .tup [.int ((at_ : Int) + 1), .int ((left : Int) - 1), .int (xs.getD at_ 0)]) (Same.refl H2) hp
        have hk4 := k4 (by omega)
        obtain ⟨v, hv⟩ := Option.isSome_iff_exists.mp hk4
        obtain ⟨z, rfl⟩ := k1 _ _ hv
        have hkey : KeyAt (upd H2 p (.tup [.int ((at_ : Int) + 1), .int ((left : Int) - 1), .int (xs.getD at_ 0)])) p (k3 (at_ + 1, left - 1, some (xs.getD at_ 0))) :=
          key3 (last := some (xs.getD at_ 0)) upd_same (by omega) (by omega)
        refine ⟨_, hkey, _, hd2.same e3, _, hv, ix_l (e3 _ _ hl2) (atI_ints (by omega)) ⟨by cases last <;> rfl, _, rfl, _, rfl, _, e3 _ _ hL2, small (by simp; omega), ?_⟩⟩
        generalize hz2 : (z + if (!decide (V.int (xs.getD at_ 0) = oV last)) = true then 1 else 0) = z2
        refine min_l (ns := acc ++ [z2]) (by rw [upd_same, List.map_append]; rfl) (by simp) fun m hm _ => q m _ (SameX.out e1 ((e2.same e3).upd) hL) fun h => absurd h hleft
    walk_at "st"
    walk_at "r0"
    refine ⟨by decide, fun p hp => ?_⟩
    have e2 := same_up (o := .tup [.int ((at_ : Int) + 1), .int (left : Nat), oV last]) (Same.refl H1) hp
    have hkey : KeyAt (upd H1 p (.tup [.int ((at_ : Int) + 1), .int (left : Nat), oV last])) p (k3 (at_ + 1, left, last)) := key3 upd_same (by omega) rfl
    refine ⟨_, hkey, _, hd1.same e2, ?_⟩
    have hx2 : SameX L H1 (upd H1 p (.tup [.int ((at_ : Int) + 1), .int (left : Nat), oV last])) := (SameX.refl _ _).same e2
    have hf2 := e2 _ _ hf1
    generalize upd H1 p (.tup [.int ((at_ : Int) + 1), .int (left : Nat), oV last]) = H2 at e2 hkey hx2 hf2 ⊢
    cases hv : valV kvs (k3 (at_ + 1, left, last)) with
    | none =>
      rw [if_neg (by simp)]
      refine rest H2 [] hx2 hf2 (by simp) fun h => ?_
      have := k3' h
      rw [hv] at this
      exact nomatch this
    | some v =>
      obtain ⟨z, rfl⟩ := k1 _ _ hv
      rw [if_pos (by simp)]
      refine ⟨tyL hf2, by decide, fun p2 hp2 => ?_⟩
      have e3 := same_up (o := .tup [.int ((at_ : Int) + 1), .int (left : Nat), oV last]) (Same.refl H2) hp2
      have hkey2 : KeyAt (upd H2 p2 (.tup [.int ((at_ : Int) + 1), .int (left : Nat), oV last])) p2 (k3 (at_ + 1, left, last)) := key3 upd_same (by omega) rfl
      refine ⟨_, hkey2, _, (hd1.same e2).same e3, _, hv, _, e3 _ _ hf2, small (by simp), ?_⟩
      refine rest _ [z] ((hx2.same e3).upd) (by rw [upd_same]; rfl) (by simp) fun h => ⟨by simp, fun y hy => ?_⟩
      rw [List.mem_singleton.mp hy]
      have := k2 _ hv h
      cases this
      rfl
/-! levels -/
abbrev P2 := Nat × Option Int
def k2 (p : P2) : NestedKey := .tup [.num (p.1 : Nat), oK p.2]
def kvL (L : List P2) : List (NestedKey × V) := L.map fun p => (k2 p, .bl true)
theorem k2_inj {x y : P2} (h : k2 x = k2 y) : x = y := by
  obtain ⟨l1, o1⟩ := x
  obtain ⟨l2, o2⟩ := y
  unfold k2 at h
  simp only [NestedKey.tup.injEq, List.cons.injEq, NestedKey.num.injEq, and_true] at h
  obtain ⟨h2, h3⟩ := h
  rw [oK_inj h3, show l1 = l2 by omega]
def addM (M : List P2) (p : P2) : List P2 := if p ∈ M then M else M ++ [p]
theorem addM_mem {M : List P2} {p q : P2} : q ∈ addM M p ↔ q ∈ M ∨ q = p := by
  unfold addM
  split
  · next h => exact ⟨.inl, fun h' => h'.elim id fun e => e ▸ h⟩
  · simp
theorem addM_len (M : List P2) (p : P2) : (addM M p).length ≤ M.length + 1 := by
  unfold addM
  split <;> simp
theorem kvL_put (M : List P2) (p : P2) : putK (kvL M) (k2 p) (.bl true) = kvL (addM M p) := by
  unfold putK addM
  have e : ((kvL M).any fun kv => decide (kv.1 = k2 p)) = decide (p ∈ M) := by
    unfold kvL
    rw [List.any_map]
    by_cases h : p ∈ M
    · rw [decide_eq_true h, List.any_eq_true]
      exact ⟨p, h, by simp⟩
    · rw [decide_eq_false h, List.any_eq_false]
      intro q hq
      simp only [Function.comp_apply, decide_eq_true_eq]
      intro z
      exact h (k2_inj z ▸ hq)
  rw [e]
  by_cases h : p ∈ M
  · rw [if_pos (decide_eq_true h), if_pos h]
    unfold kvL
    rw [List.map_map]
    refine List.map_congr_left fun q _ => ?_
    simp only [Function.comp_apply]
    split
    · rfl
    · rfl
  · rw [if_neg (by simp [h]), if_neg h]
    unfold kvL
    simp
/-- what a level's states are like -/
def Pok (xs : List Int) (many : Nat) (p : P2) : Prop := p.1 ≤ many ∧ (p.2 = none ∨ ∃ i, i < xs.length ∧ p.2 = some (xs.getD i 0))
def stepL (xs : List Int) (j : Nat) (L L' : List P2) : Prop := ∀ p ∈ L, (p.1 + j + 1 ≤ xs.length → p ∈ L') ∧ (0 < p.1 → (p.1 - 1, some (xs.getD j 0)) ∈ L')
structure LvOk (xs : List Int) (many : Nat) (Ls : List (List P2)) (i : Nat) : Prop where
  len : Ls.length = i + 1
  z : Ls.getD 0 [] = [(many, none)]
  st : ∀ j, j < i → stepL xs j (Ls.getD j []) (Ls.getD (j + 1) [])
  ok : ∀ j, j ≤ i → (∀ p ∈ Ls.getD j [], Pok xs many p) ∧ (Ls.getD j []).length ≤ 2 ^ j
abbrev FE := St3 × Int
def kvF (F : List FE) : List (NestedKey × V) := F.map fun s => (k3 s.1, .int s.2)
def setF (F : List FE) (s : St3) (z : Int) : List FE := if s ∈ F.map (·.1) then F.map (fun x => if x.1 = s then (x.1, z) else x) else F ++ [(s, z)]
theorem setF_mem {F : List FE} {s : St3} {z : Int} {x : FE} (h : x ∈ setF F s z) : x = (s, z) ∨ x ∈ F := by
  unfold setF at h
  split at h
  · obtain ⟨y, hy, rfl⟩ := List.mem_map.mp h
    split
    · next e => exact .inl (by rw [e])
    · exact .inr hy
  · rcases List.mem_append.mp h with h | h
    · exact .inr h
    · exact .inl (List.mem_singleton.mp h)
theorem setF_new (F : List FE) (s : St3) (z : Int) : (s, z) ∈ setF F s z := by
  unfold setF
  split
  · next h =>
    obtain ⟨y, hy, e⟩ := List.mem_map.mp h
    exact List.mem_map.mpr ⟨y, hy, by rw [if_pos e, e]⟩
  · exact List.mem_append_right _ (List.mem_singleton.mpr rfl)
theorem setF_old {F : List FE} {s k : St3} {z : Int} (h : ∃ y, (k, y) ∈ F) : ∃ y, (k, y) ∈ setF F s z := by
  by_cases e : k = s
  · exact ⟨z, e ▸ setF_new F s z⟩
  · obtain ⟨y, hy⟩ := h
    refine ⟨y, ?_⟩
    unfold setF
    split
    · exact List.mem_map.mpr ⟨_, hy, if_neg e⟩
    · exact List.mem_append_left _ hy
theorem setF_len (F : List FE) (s : St3) (z : Int) : (setF F s z).length ≤ F.length + 1 := by
  unfold setF
  split
  · rw [List.length_map]; omega
  · simp
theorem kvF_put (F : List FE) (s : St3) (z : Int) : putK (kvF F) (k3 s) (.int z) = kvF (setF F s z) := by
  unfold putK setF
  have e : ((kvF F).any fun kv => decide (kv.1 = k3 s)) = decide (s ∈ F.map (·.1)) := by
    unfold kvF
    rw [List.any_map]
    by_cases h : s ∈ F.map (·.1)
    · rw [decide_eq_true h, List.any_eq_true]
      obtain ⟨y, hy, e⟩ := List.mem_map.mp h
      exact ⟨y, hy, by simp [e]⟩
    · rw [decide_eq_false h, List.any_eq_false]
      intro y hy
      simp only [Function.comp_apply, decide_eq_true_eq]
      intro z
      exact h (List.mem_map.mpr ⟨y, hy, k3_inj z⟩)
  rw [e]
  by_cases h : s ∈ F.map (·.1)
  · rw [if_pos (decide_eq_true h), if_pos h]
    unfold kvF
    rw [List.map_map, List.map_map]
    refine List.map_congr_left fun y _ => ?_
    simp only [Function.comp_apply]
    by_cases q : y.1 = s
    · rw [if_pos (congrArg k3 q), if_pos q]
    · rw [if_neg (fun z => q (k3_inj z)), if_neg q]
  · rw [if_neg (by simp [h]), if_neg h]
    unfold kvF
    simp
theorem valV_mem {κ : Type} [DecidableEq κ] : ∀ {kvs : List (κ × V)} {k : κ} {v : V}, valV kvs k = some v → (k, v) ∈ kvs
  | [], _, _, h => nomatch h
  | p :: r, k, v, h => by
    by_cases e : p.1 = k
    · rw [valV_pos e] at h
      cases h
      subst e
      exact List.mem_cons_self ..
    · rw [valV_neg e] at h
      exact List.mem_cons_of_mem _ (valV_mem h)
theorem valV_some {κ : Type} [DecidableEq κ] : ∀ {kvs : List (κ × V)} {k : κ} {v : V}, (k, v) ∈ kvs → (valV kvs k).isSome = true
  | p :: r, k, v, h => by
    by_cases e : p.1 = k
    · rw [valV_pos e]; rfl
    · rw [valV_neg e]
      rcases List.mem_cons.mp h with h | h
      · exact absurd (by rw [← h]) e
      · exact valV_some h
theorem kvF_val {F : List FE} {k : NestedKey} {v : V} (h : valV (kvF F) k = some v) : ∃ x ∈ F, k = k3 x.1 ∧ v = .int x.2 := by
  obtain ⟨x, hx, e⟩ := List.mem_map.mp (valV_mem h)
  cases e
  exact ⟨x, hx, rfl, rfl⟩
theorem kvF_has {F : List FE} {s : St3} (h : ∃ z, (s, z) ∈ F) : (valV (kvF F) (k3 s)).isSome = true := by
  obtain ⟨z, hz⟩ := h
  exact valV_some (v := .int z) (List.mem_map.mpr ⟨_, hz, rfl⟩)
/-- floors: a dict with all states that are reached -/
def FlOk (xs : List Int) (many : Nat) (kvs : List (NestedKey × V)) : Prop :=
  ∃ S : List FE, kvs = kvF S ∧ (S.map (·.1)).Nodup ∧ (∃ z, ((0, many, none), z) ∈ S) ∧ (∀ s ∈ S, s.1.1 ≤ xs.length ∧ s.1.2.1 ≤ many ∧ (s.1.2.2 = none ∨ ∃ i, i < xs.length ∧ s.1.2.2 = some (xs.getD i 0)) ∧ (s.1.2.1 = 0 → s.2 = 0)) ∧
  (∀ s ∈ S, s.1.1 < xs.length → (s.1.2.1 = 0 → ∃ z, ((s.1.1 + 1, 0, s.1.2.2), z) ∈ S) ∧ (0 < s.1.2.1 → ∃ z, ((s.1.1 + 1, s.1.2.1 - 1, some (xs.getD s.1.1 0)), z) ∈ S))
def spFl (P : Program) (w : World) : Sp := fun vs H Q _ => ∃ (l : Addr) (xs : List Int) (many : Nat), vs = [.ref l, .int (many : Nat)] ∧ H l = some (.lst (xs.map V.int)) ∧ xs.length ≤ 10 ∧ many ≤ xs.length ∧
  ∀ d H' kvs, Same H H' → DN P w H' d kvs → FlOk xs many kvs → Q (.ref d) H'
abbrev N_floors_in : List Str := ["values", "many", "found", "states", "at", "value", "late", "left", "last"]
theorem ok_floors_in (D : Def K mg "floors_in" 63) (T : Txt K mg a) (M : TabM P w K mg base a.CT) (c_best_in : CalX P w K mg base 3 "best_in" (spBi P w)) : CalX P w K mg base 4 "floors_in" (spFl P w) := by
  refine calx (N := N_floors_in) (ps := ["values", "many"]) D (by decide +kernel) (fun vs H Q E h => ?_) (fun _ _ _ _ _ _ us hl => match us, hl with | [_, _], _ => rfl) (fun f cdv A outer s H vs Q E hr nd tk pn h => ⟨_, (pss_cons (ps_par (i := 2) (j := 3) rfl nd rfl rfl (by decide) rfl rfl (pa_cons (pe_dnewN (P := P) (w := w)) (pa_cons (pe_lst (pa_cons (pe_dispN (P := P) (w := w) rfl rfl hr.units (pe_tup (pa_cons (pv 1) (pa_cons pe_non pa_nil))) pe_bl) pa_nil)) pa_nil)) (by rfl))
      (pss_cons (ps_for pn rfl (pi_en (by rfl) T.enumerate (pa_cons (pv 0) pa_nil)) (pg_tupK (K := K) (n := 2) rfl rfl (pgs_cons (pg_name (i := 4) nd rfl (Or.inl rfl)) (pgs_cons (pg_name (i := 5) nd rfl (Or.inl rfl)) pgs_nil)))
      (pss_cons (ps_set (i := 6) nd rfl (Or.inl rfl) (pe_dnewN (P := P) (w := w)))
      (pss_cons (ps_for pn rfl ((piKN (P := P) (w := w) rfl rfl) (pe_ix (ixK (K := K) rfl) (pv 3) (pe_un un_neg pe_int) (fun _ _ => rfl))) (pg_tupK (K := K) (n := 2) rfl rfl (pgs_cons (pg_name (i := 7) nd rfl (Or.inl rfl)) (pgs_cons (pg_name (i := 8) nd rfl (Or.inl rfl)) pgs_nil)))
      (pss_cons (ps_if (pt_cmpR op_le (pv 7) (pe_op op_sub (pe_op op_sub (pe_callB (call_lenK (K := K) rfl M hr (by decide)) (by rfl) T.len bi_len (pa_cons (pv 0) pa_nil)) (pv 4)) pe_int) (nomark _))
      (pss_one (ps_asg pe_bl (pg_sub (pv 6) (pe_tup (pa_cons (pv 7) (pa_cons (pv 8) pa_nil))) (setN (P := P) (w := w) rfl rfl hr.units))))
      pss_nil)
      (pss_one (ps_if (pt_cmpR op_gt (pv 7) pe_int (nomark _))
      (pss_one (ps_asg pe_bl (pg_sub (pv 6) (pe_tup (pa_cons (pe_op op_sub (pv 7) pe_int) (pa_cons (pv 5) pa_nil))) (setN (P := P) (w := w) rfl rfl hr.units))))
      pss_nil))))
      (pss_one (ps_expr (pe_bm PySem.F.plainAttrs_list PySem.F.slot_list_append PySem.F.type_list_append mt_append (pv 3) (pa_cons (pv 6) pa_nil)))))))
      (pss_cons (ps_for pn rfl (pi_rg3 (by rfl) T.range (pa_cons (pe_callB (call_lenK (K := K) rfl M hr (by decide)) (by rfl) T.len bi_len (pa_cons (pv 0) pa_nil)) (pa_cons (pe_un un_neg pe_int) (pa_cons (pe_un un_neg pe_int) pa_nil)))) (pg_name (i := 4) nd rfl (Or.inl rfl))
      (pss_one (ps_for pn rfl ((piKN (P := P) (w := w) rfl rfl) (pe_ix (ixK (K := K) rfl) (pv 3) (pv 4) (fun _ _ => rfl))) (pg_tupK (K := K) (n := 2) rfl rfl (pgs_cons (pg_name (i := 7) nd rfl (Or.inl rfl)) (pgs_cons (pg_name (i := 8) nd rfl (Or.inl rfl)) pgs_nil)))
      (pss_one (ps_asg (pe_cx c_best_in hr (by decide) tk (pa_cons (pv 0) (pa_cons (pv 2) (pa_cons (pe_tup (pa_cons (pv 4) (pa_cons (pv 7) (pa_cons (pv 8) pa_nil)))) pa_nil)))) (pg_sub (pv 2) (pe_tup (pa_cons (pv 4) (pa_cons (pv 7) (pa_cons (pv 8) pa_nil)))) (setN (P := P) (w := w) rfl rfl hr.units)))))))
      (pss_one (ps_ret (pv 2)))))), ?_⟩)
  · obtain ⟨_, _, _, rfl, _⟩ := h
    rfl
  · obtain ⟨l, xs, many, rfl, hl, hn, hm, q⟩ := h
    clear tk pn nd hr
    walk_at "st"
    walk_at "r0"
    intro D H1 hD1 e1 ne1 dD1 d0 H2 hd0 e2 ne2 dd0
    refine ⟨by decide, fun pt hpt => ?_⟩
    have e3 := same_up (o := .tup [.int (many : Nat), .non]) (Same.refl H2) hpt
    refine ⟨k2 (many, none), keyT2 upd_same (.int _) .non (Nat.zero_le _) (Nat.zero_le _), dd0.same e3, fun H3 ne3 dd3 => ⟨by decide, fun SL hSL => ⟨_, _, ⟨rfl, rfl⟩, ?_⟩⟩⟩
    have x23 : SameX d0 H2 H3 := ((SameX.refl d0 H2).same e3).trans (SameX.of ne3)
    have dD2 := dD1.same e2
    have nD0 : D ≠ d0 := dD1.ne_none hd0
    have dD3 := dD2.kx nD0 dd0.nt x23
    have e03 : Same H H3 := SameX.out (e1.trans e2) x23 (e1.free hd0)
    have hSL0 : H SL = none := by
      cases hq : H SL with
      | none => rfl
      | some o => have := e03 _ _ hq; rw [hSL] at this; exact nomatch this
    have e4 : Same H3 (upd H3 SL (.lst [.ref d0])) := same_new (Same.refl _) hSL
    have hS4 : upd H3 SL (.lst [.ref d0]) SL = some (.lst ([d0].map V.ref)) := upd_same
    have dD4 := dD3.same e4
    have dd4 := dd3.same e4
    have e04 := e03.trans e4
    generalize upd H3 SL (.lst [.ref d0]) = H4 at e4 hS4 dD4 dd4 e04 ⊢
    have hD0' : H d0 = none := e1.free hd0
    walk_at "st"
    walk_at "lp"
    walk_at "r0"
    have hl4 := e04 _ _ hl
    refine ⟨true, _, sqA_l hl4, ?_⟩
    refine forB (fun i σ H' => Same H H' ∧ ∃ v4 v5 v6 v7 v8 ds Ls, σ = [some (.ref l), some (.int (many : Nat)), some (.ref D), some (.ref SL), v4, v5, v6, v7, v8] ∧ H' SL = some (.lst (ds.map V.ref)) ∧ DN P w H' D [] ∧
      Paired (fun d L => DN P w H' d (kvL L) ∧ d ≠ D) ds Ls ∧ LvOk xs many Ls i)
      ⟨e04, none, none, none, none, none, [d0], [[(many, none)]], rfl, hS4, dD4, .cons ⟨dd4, nD0.symm⟩ .nil, rfl, rfl, (fun j hj => absurd hj (Nat.not_lt_zero _)), fun j hj => ?_⟩ (fun i σ H' _ h => sqA_l (h.1 _ _ hl)) ?_ ?_
    · obtain rfl : j = 0 := by omega
      refine ⟨fun p hp => ?_, Nat.le_refl _⟩
      rw [List.mem_singleton.mp hp]
      exact ⟨Nat.le_refl _, .inl rfl⟩
    · rintro i x σ H5 H6 Nx hi ⟨e5, v4, v5, v6, v7, v8, ds, Ls, rfl, hS5, dD5, hp5, lv⟩ y nx
      simp only [yT] at y
      obtain ⟨T0, rfl, hT0, rfl⟩ := y
      rw [List.length_map] at hi
      refine un2 upd_same ?_
      rw [getI hi]
      have e6 := same_up (o := .tup [.int (i : Nat), .int (xs.getD i 0)]) (Same.refl H5) hT0
      generalize upd H5 T0 (.tup [.int (i : Nat), .int (xs.getD i 0)]) = H6 at e6 ⊢
      walk_at "st"
      walk_at "r0"
      intro d' H7 hd' e7 ne7 dd7
      have e57 := e6.trans e7
      have e07 := e5.trans e57
      have hd'0 : H d' = none := (e5.trans e6).free hd'
      have hS7 := e57 _ _ hS5
      obtain ⟨ds', dl, Ls', L, rfl, rfl⟩ : ∃ ds' dl Ls' L, ds = ds' ++ [dl] ∧ Ls = Ls' ++ [L] := by
        have h1 := lv.len
        rcases List.eq_nil_or_concat Ls with h | ⟨Ls', L, h⟩
        · rw [h] at h1; exact absurd h1 (by simp)
        · rw [List.concat_eq_append] at h
          subst h
          obtain ⟨ds', dl, h2, _, _⟩ := paired_snoc_inv hp5
          exact ⟨ds', dl, Ls', L, h2, rfl⟩
      have hlL : Ls'.length = i := by have := lv.len; simp at this; omega
      have hLi : (Ls' ++ [L]).getD i [] = L := by
        rw [List.getD_eq_getElem?_getD, List.getElem?_append_right (by omega), hlL]
        simp
      obtain ⟨dl5, ndl⟩ : DN P w H5 dl (kvL L) ∧ dl ≠ D := by
        obtain ⟨_, _, h2, _, h3⟩ := paired_snoc_inv hp5
        have := List.append_inj_right' h2 rfl
        cases this
        exact h3
      have dl7 := dl5.same e57
      have nl' : dl ≠ d' := (dl5.same e6).ne_none hd'
      walk_at "st"
      walk_at "lp"
      walk_at "r0"
      rw [List.map_append] at hS7
      obtain ⟨ob, es, dk7, hes⟩ := dl7
      have hesl : es.length = L.length := by
        have := congrArg List.length hes
        unfold kvO kvL at this
        rw [List.length_map, List.length_map] at this
        exact this
      refine ix_l hS7 atI_last ⟨dl, rfl, ob, es, dk7, ?_⟩
      obtain ⟨okL, lenL⟩ := lv.ok i (Nat.le_refl _)
      rw [hLi] at okL lenL
      have pow : 2 ^ i ≤ 2 ^ 10 := Nat.pow_le_pow_right (by decide) (by omega)
      refine forB (fun t σ H' => SameX d' H7 H' ∧ ∃ v7 v8 M, σ = [some (.ref l), some (.int (many : Nat)), some (.ref D), some (.ref SL), some (.int (i : Nat)), some (.int (xs.getD i 0)), some (.ref d'), v7, v8] ∧ DN P w H' d' (kvL M) ∧ M.length ≤ 2 * t ∧ (∀ p ∈ M, Pok xs many p) ∧
        ∀ s, s < t → ((L.getD s (0, none)).1 + i + 1 ≤ xs.length → L.getD s (0, none) ∈ M) ∧ (0 < (L.getD s (0, none)).1 → ((L.getD s (0, none)).1 - 1, some (xs.getD i 0)) ∈ M))
        ⟨SameX.refl _ _, v7, v8, [], rfl, dd7, Nat.zero_le _, (fun _ h => nomatch h), fun s hs => absurd hs (Nat.not_lt_zero _)⟩ (fun t σ H' _ h => dk7.kx nl' dd7.nt h.1) ?_ ?_
      · rintro t x σ H8 H9 Nx2 ht ⟨x8, v7, v8, M, rfl, dM8, lM, okM, hM⟩ y nx2
        simp only [yV] at y
        obtain ⟨rfl, rfl⟩ := y
        have dk8 := dk7.kx nl' dd7.nt x8
        obtain ⟨kk, vv, g1, g2, g3, g4⟩ := kvO_at hes ht
        have hLt : t < L.length := by omega
        have g5 : (kvL L)[t]? = some (k2 (L.getD t (0, none)), .bl true) := by
          unfold kvL
          rw [List.getElem?_map, List.getD_eq_getElem?_getD, List.getElem?_eq_getElem hLt]
          rfl
        rw [g5] at g1
        cases g1
        have ky := dk8.2.2.2.2.2.1 _ g4
        rw [g2] at ky
        have hLm : L.getD t (0, none) ∈ L := getD_mem hLt
        generalize hpp : L.getD t (0, none) = pp at ky hLm
        obtain ⟨left, last⟩ := pp
        obtain ⟨vx, vy, hb, nx1, ny1⟩ := keyT2_inv ky
        obtain rfl := nk_int nx1
        obtain rfl := nk_oinv ny1
        refine un2 hb ?_
        have hPok := okL _ hLm
        generalize hB : tIfS (tTest (tOp (rI0 fun i j => V.bl (decide (j < i))) (tVar 7) (tC (V.int 0)))) _ _ = B
        have rest : ∀ (Dd : Ends) H' M', Dd.nx = Nx2 → SameX d' H7 H' → DN P w H' d' (kvL M') → M'.length ≤ 2 * t + 1 → (∀ p ∈ M', Pok xs many p) → (∀ p ∈ M, p ∈ M') → (left + i + 1 ≤ xs.length → (left, last) ∈ M') →
            B Dd [some (.ref l), some (.int (many : Nat)), some (.ref D), some (.ref SL), some (.int (i : Nat)), some (.int (xs.getD i 0)), some (.ref d'), some (.int (left : Nat)), some (oV last)] H' := by
          intro Dd H' M' hDd x' dM' lM' okM' sub' h1'
          subst hB
          walk_at "r0"
          rw [hDd]
          have fin : ∀ H'' M'', SameX d' H7 H'' → DN P w H'' d' (kvL M'') → M''.length ≤ 2 * t + 2 → (∀ p ∈ M'', Pok xs many p) → (∀ p ∈ M', p ∈ M'') → (0 < left → (left - 1, some (xs.getD i 0)) ∈ M'') →
              Nx2 [some (.ref l), some (.int (many : Nat)), some (.ref D), some (.ref SL), some (.int (i : Nat)), some (.int (xs.getD i 0)), some (.ref d'), some (.int (left : Nat)), some (oV last)] H'' := by
            intro H'' M'' x'' dM'' lM'' okM'' sub'' h2''
            refine nx2 _ _ ⟨x'', _, _, M'', rfl, dM'', by omega, okM'', fun s hs => ?_⟩
            rcases Nat.lt_or_ge s t with h | h
            · obtain ⟨a1, a2⟩ := hM s h
              exact ⟨fun z => sub'' _ (sub' _ (a1 z)), fun z => sub'' _ (sub' _ (a2 z))⟩
            · obtain rfl : s = t := by omega
              rw [hpp]
              exact ⟨fun z => sub'' _ (h1' z), h2''⟩
          by_cases hleft : 0 < left
          · rw [if_pos (by simpa using hleft)]
            refine ⟨by decide, fun p hp => ?_⟩
            have e' := same_up (o := .tup [.int ((left : Int) - 1), .int (xs.getD i 0)]) (Same.refl H') hp
            have hk : KeyAt (upd H' p (.tup [.int ((left : Int) - 1), .int (xs.getD i 0)])) p (k2 (left - 1, some (xs.getD i 0))) := by
              refine keyT2 upd_same ?_ (nk_o (some (xs.getD i 0))) (Nat.zero_le _) (Nat.zero_le _)
              rw [show ((left : Int) - 1) = ((left - 1 : Nat) : Int) by omega]
              exact .int _
            refine ⟨_, hk, _, dM'.same e', by unfold kvL; rw [List.length_map]; omega, fun H'' ne'' dd'' => ?_⟩
            rw [kvL_put] at dd''
            refine fin H'' _ ((x'.same e').trans (SameX.of ne'')) dd'' (by have := addM_len M' (left - 1, some (xs.getD i 0)); omega) (fun p hp => ?_) (fun p hp => addM_mem.mpr (.inl hp)) fun _ => addM_mem.mpr (.inr rfl)
            rcases addM_mem.mp hp with h | h
            · exact okM' p h
            · rw [h]
              exact ⟨by have := hPok.1; simp only at this ⊢; omega, .inr ⟨i, hi, rfl⟩⟩
          · rw [if_neg (by simpa using hleft)]
            exact fin H' M' x' dM' (by omega) okM' (fun _ h => h) fun h => absurd h hleft
        walk_at "st"
        walk_at "r0"
        have e08 := SameX.out e07 x8 hd'0
        refine len_l (e08 _ _ hl) ⟨_, rfl, ?_⟩
        rw [List.length_map]
        by_cases hle : left + i + 1 ≤ xs.length
        · rw [if_pos (by simp; omega)]
          refine ⟨by decide, fun p hp => ?_⟩
          have e' := same_up (o := .tup [.int (left : Nat), oV last]) (Same.refl H9) hp
          have hk : KeyAt (upd H9 p (.tup [.int (left : Nat), oV last])) p (k2 (left, last)) := keyT2 upd_same (.int _) (nk_o last) (Nat.zero_le _) (by rw [oK_depth]; exact Nat.zero_le _)
          refine ⟨_, hk, _, dM8.same e', by unfold kvL; rw [List.length_map]; omega, fun H'' ne'' dd'' => ?_⟩
          rw [kvL_put] at dd''
          refine rest _ H'' _ rfl ((x8.same e').trans (SameX.of ne'')) dd'' (by have := addM_len M (left, last); omega) (fun p hp => ?_) (fun p hp => addM_mem.mpr (.inl hp)) fun _ => addM_mem.mpr (.inr rfl)
          rcases addM_mem.mp hp with h | h
          · exact okM p h
          · rw [h]
            exact hPok
        · rw [if_neg (by simp; omega)]
          exact rest _ H9 M rfl x8 dM8 (by omega) okM (fun _ h => h) fun h => absurd h hle
      · rintro σ H8 ⟨x8, v7, v8, M, rfl, dM8, lM, okM, hM⟩
        walk_at "r0"
        have e08 := SameX.out e07 x8 hd'0
        have nS' : SL ≠ d' := ne_of_none (e6 _ _ hS5) hd'
        have hS8 := x8 _ _ hS7 nS'
        have lds : (ds' ++ [dl]).length = i + 1 := by rw [hp5.length, lv.len]
        have e58 : SameX d' H5 H8 := ((SameX.refl d' H5).same e57).trans x8
        have hS8' : H8 SL = some (.lst ((ds' ++ [dl]).map V.ref)) := by rw [List.map_append]; exact hS8
        refine ⟨tyL hS8', _, hS8', small (by rw [List.length_map]; omega), ?_⟩
        have xS : SameX SL H8 (upd H8 SL (.lst ((ds' ++ [dl]).map V.ref ++ [.ref d']))) := (SameX.refl _ _).upd
        have nd'S : d' ≠ SL := nS'.symm
        have nDd' : D ≠ d' := (dD5.same e6).ne_none hd'
        have keepD : ∀ {dd : Addr} {kv : List (NestedKey × V)}, DN P w H5 dd kv → DN P w (upd H8 SL (.lst ((ds' ++ [dl]).map V.ref ++ [.ref d']))) dd kv := fun {dd kv} z => by
          have z1 := (z.same e57).kx ((z.same e6).ne_none hd') dd7.nt x8
          exact z1.kx (z1.ne_lst hS8') (lst_nt hS8') xS
        refine nx _ _ ⟨SameX.out e08 xS hSL0, _, _, _, _, _, ds' ++ [dl] ++ [d'], Ls' ++ [L] ++ [M], rfl, by rw [upd_same]; simp, keepD dD5, ?_, ?_⟩
        · refine paired_snoc (Paired.imp2 hp5 fun dd LL z => ⟨keepD z.1, z.2⟩) ⟨?_, nDd'.symm⟩
          exact dM8.kx nd'S (lst_nt hS8') xS
        · have g1 : ∀ j, j ≤ i → (Ls' ++ [L] ++ [M]).getD j [] = (Ls' ++ [L]).getD j [] := fun j hj => by
            rw [List.getD_eq_getElem?_getD, List.getD_eq_getElem?_getD, List.getElem?_append_left (by rw [lv.len]; omega)]
          have g2 : (Ls' ++ [L] ++ [M]).getD (i + 1) [] = M := by
            rw [List.getD_eq_getElem?_getD, List.getElem?_append_right (by rw [lv.len]; exact Nat.le_refl _), lv.len]
            simp
          refine ⟨by rw [List.length_append, lv.len]; rfl, by rw [g1 0 (by omega)]; exact lv.z, fun j hj => ?_, fun j hj => ?_⟩
          · rcases Nat.lt_or_ge j i with h | h
            · rw [g1 j (by omega), g1 (j + 1) (by omega)]
              exact lv.st j h
            · obtain rfl : j = i := by omega
              rw [g1 j (Nat.le_refl _), g2, hLi]
              intro p hp
              obtain ⟨s, hs, hps⟩ := List.getElem_of_mem hp
              have hM' := hM s (by omega)
              have hg : L.getD s (0, none) = p := by rw [List.getD_eq_getElem?_getD, List.getElem?_eq_getElem hs]; exact hps
              rw [hg] at hM'
              exact hM'
          · rcases Nat.lt_or_ge j (i + 1) with h | h
            · rw [g1 j (by omega)]
              exact lv.ok j (by omega)
            · obtain rfl : j = i + 1 := by omega
              rw [g2]
              refine ⟨okM, ?_⟩
              rw [Nat.pow_succ]
              omega
    · rintro σ H5 ⟨e5, v4, v5, v6, v7, v8, ds, Ls, rfl, hS5, dD5, hp5, lv⟩
      rw [List.length_map] at lv
      walk_at "st"
      walk_at "lp"
      walk_at "r0"
      have hl5 := e5 _ _ hl
      have hlS : l ≠ D := ne_of_none hl hD1
      refine len_l hl5 ⟨_, _, _, ⟨rfl, rfl, rfl⟩, xs.length + 1, ?_, _, _, _, rfl, ?_⟩
      · rw [List.length_map]
        have := RgC.neg (i := (xs.length : Nat)) (j := -1) (by omega) (by omega) (by omega) (by omega)
        rw [show ((xs.length : Int) - -1).toNat = xs.length + 1 by omega] at this
        exact this
      rw [List.length_map]
      refine forB (fun k σ H' => SameX D H5 H' ∧ ∃ v4 v5 v6 v7 v8 F, σ = [some (.ref l), some (.int (many : Nat)), some (.ref D), some (.ref SL), v4, v5, v6, v7, v8] ∧ DN P w H' D (kvF F) ∧ F.length ≤ 1024 * k ∧
        (∀ x ∈ F, xs.length < x.1.1 + k ∧ x.1.1 ≤ xs.length ∧ (x.1.2.1, x.1.2.2) ∈ Ls.getD x.1.1 [] ∧ (x.1.2.1 = 0 → x.2 = 0)) ∧ ∀ j, j ≤ xs.length → xs.length < j + k → ∀ p ∈ Ls.getD j [], ∃ z, ((j, p.1, p.2), z) ∈ F)
        ⟨SameX.refl _ _, v4, v5, v6, v7, v8, [], rfl, dD5, Nat.zero_le _, (fun _ h => nomatch h), fun j h1 h2 => absurd h2 (by omega)⟩ (fun _ _ _ _ _ => trivial) ?_ ?_
      · rintro k x σ H6 H7 Nx hk ⟨x6, v4, v5, v6, v7, v8, F, rfl, dD6, lF, okF, cF⟩ y nx
        simp only [yV] at y
        obtain ⟨rfl, rfl⟩ := y
        obtain ⟨at_, hat⟩ : ∃ at_ : Nat, at_ + k = xs.length := ⟨xs.length - k, by omega⟩
        rw [show (xs.length : Int) + (k : Int) * -1 = (at_ : Nat) by omega]
        walk_at "r0"
        walk_at "lp"
        walk_at "r0"
        have nSD : SL ≠ D := fun z => by
          have := dD5.ne_lst hS5
          exact this z.symm
        have hS7 := x6 _ _ hS5 nSD
        have lds : ds.length = xs.length + 1 := by rw [hp5.length, lv.len]
        obtain ⟨dl, hdl⟩ : ∃ dl, ds[at_]? = some dl := ⟨ds[at_], List.getElem?_eq_getElem (by omega)⟩
        obtain ⟨L, hLat, dl5, ndl⟩ := paired_get hp5 hdl
        have hLi : Ls.getD at_ [] = L := by rw [List.getD_eq_getElem?_getD, hLat]; rfl
        have dl7 := dl5.kx ndl dD5.nt x6
        obtain ⟨ob, es, dk7, hes⟩ := dl7
        have hesl : es.length = L.length := by
          have := congrArg List.length hes
          unfold kvO kvL at this
          rw [List.length_map, List.length_map] at this
          exact this
        refine ix_l hS7 (atI_nat (by rw [List.getElem?_map, hdl]; rfl)) ⟨dl, rfl, ob, es, dk7, ?_⟩
        obtain ⟨okL, lenL⟩ := lv.ok at_ (by omega)
        rw [hLi] at okL lenL
        have pow : 2 ^ at_ ≤ 2 ^ 10 := Nat.pow_le_pow_right (by decide) (by omega)
        refine forB (fun t σ H' => SameX D H7 H' ∧ ∃ v7 v8 F, σ = [some (.ref l), some (.int (many : Nat)), some (.ref D), some (.ref SL), some (.int (at_ : Nat)), v5, v6, v7, v8] ∧ DN P w H' D (kvF F) ∧ F.length ≤ 1024 * k + t ∧
          (∀ x ∈ F, xs.length < x.1.1 + (k + 1) ∧ x.1.1 ≤ xs.length ∧ (x.1.2.1, x.1.2.2) ∈ Ls.getD x.1.1 [] ∧ (x.1.2.1 = 0 → x.2 = 0)) ∧ (∀ j, j ≤ xs.length → xs.length < j + k → ∀ p ∈ Ls.getD j [], ∃ z, ((j, p.1, p.2), z) ∈ F) ∧
          ∀ s, s < t → ∃ z, ((at_, (L.getD s (0, none)).1, (L.getD s (0, none)).2), z) ∈ F)
          ⟨SameX.refl _ _, v7, v8, F, rfl, dD6, by omega, (fun x hx => by obtain ⟨a1, a2, a3, a4⟩ := okF x hx; exact ⟨by omega, a2, a3, a4⟩), cF, fun s hs => absurd hs (Nat.not_lt_zero _)⟩ (fun t σ H' _ h => dk7.kx ndl dD6.nt h.1) ?_ ?_
        · rintro t x σ H8 H9 Nx2 ht ⟨x8, v7, v8, F, rfl, dF8, lF, okF, cF, tF⟩ y nx2
          simp only [yV] at y
          obtain ⟨rfl, rfl⟩ := y
          have dk9 := dk7.kx ndl dD6.nt x8
          obtain ⟨kk, vv, g1, g2, g3, g4⟩ := kvO_at hes ht
          have hLt : t < L.length := by omega
          have g5 : (kvL L)[t]? = some (k2 (L.getD t (0, none)), .bl true) := by
            unfold kvL
            rw [List.getElem?_map, List.getD_eq_getElem?_getD, List.getElem?_eq_getElem hLt]
            rfl
          rw [g5] at g1
          cases g1
          have ky := dk9.2.2.2.2.2.1 _ g4
          rw [g2] at ky
          have hLm : L.getD t (0, none) ∈ L := getD_mem hLt
          generalize hpp : L.getD t (0, none) = pp at ky hLm
          obtain ⟨left, last⟩ := pp
          obtain ⟨vx, vy, hb, nx1, ny1⟩ := keyT2_inv ky
          obtain rfl := nk_int nx1
          obtain rfl := nk_oinv ny1
          refine un2 hb ?_
          have hPok := okL _ hLm
          walk_at "r0"
          have x59 := x6.trans x8
          have e09 := SameX.out e5 x59 hD1
          refine ⟨by decide, fun p hp => ?_⟩
          have e10 := same_up (o := .tup [.int (at_ : Nat), .int (left : Nat), oV last]) (Same.refl H9) hp
          have hfind : ∀ {k : St3}, (∃ z, (k, z) ∈ F) → (valV (kvF F) (k3 k)).isSome = true := fun h => kvF_has h
          refine ⟨l, xs, D, kvF F, p, at_, left, last, rfl, e10 _ _ (e09 _ _ hl), hn, dF8.same e10, upd_same, by omega, fun hlt => ⟨fun k v hv => ?_, fun v hv h0 => ?_, fun h0 => ?_, fun h0 => ?_⟩, fun z H11 e11 hz => ?_⟩
          · obtain ⟨x, _, _, e⟩ := kvF_val hv
            exact ⟨_, e⟩
          · obtain ⟨x, hx, e1', e2'⟩ := kvF_val hv
            obtain ⟨_, _, _, a4⟩ := okF x hx
            rw [e2', a4 (by rw [← k3_inj e1']; exact h0)]
          · obtain ⟨s1, _⟩ := lv.st at_ hlt _ (by rw [hLi]; exact hLm)
            exact hfind (cF (at_ + 1) hlt (by omega) _ (s1 (by simp only; omega)))
          · obtain ⟨_, s2⟩ := lv.st at_ hlt _ (by rw [hLi]; exact hLm)
            exact hfind (cF (at_ + 1) hlt (by omega) _ (s2 h0))
          · refine ⟨by decide, fun p2 hp2 => ?_⟩
            have e12 := same_up (o := .tup [.int (at_ : Nat), .int (left : Nat), oV last]) (Same.refl H11) hp2
            refine ⟨k3 (at_, left, last), key3 upd_same rfl rfl, kvF F, ((dF8.same e10).same e11).same e12, by unfold kvF; rw [List.length_map]; omega, fun H13 ne13 dd13 => ?_⟩
            rw [kvF_put] at dd13
            have lset := setF_len F (at_, left, last) z
            refine nx2 _ _ ⟨((x8.same (e10.trans (e11.trans e12))).trans (SameX.of ne13)), _, _, setF F (at_, left, last) z, rfl, dd13, by omega, fun x hx => ?_, fun j h1 h2 p hp => setF_old (cF j h1 h2 p hp), fun s hs => ?_⟩
            · rcases setF_mem hx with rfl | hx
              · exact ⟨by show xs.length < at_ + (k + 1); omega, by show at_ ≤ xs.length; omega, by show (left, last) ∈ Ls.getD at_ []; rw [hLi]; exact hLm, hz⟩
              · exact okF x hx
            · rcases Nat.lt_or_ge s t with h | h
              · exact setF_old (tF s h)
              · obtain rfl : s = t := by omega
                rw [hpp]
                exact ⟨z, setF_new _ _ _⟩
        · rintro σ H8 ⟨x8, v7, v8, F, rfl, dF8, lF, okF, cF, tF⟩
          refine nx _ _ ⟨x6.trans x8, _, _, _, _, _, F, rfl, dF8, by omega, okF, fun j h1 h2 p hp => ?_⟩
          rcases Nat.lt_or_ge xs.length (j + k) with h | h
          · exact cF j h1 h p hp
          · obtain rfl : j = at_ := by omega
            rw [hLi] at hp
            obtain ⟨s, hs, hps⟩ := List.getElem_of_mem hp
            have hg : L.getD s (0, none) = p := by rw [List.getD_eq_getElem?_getD, List.getElem?_eq_getElem hs]; exact hps
            have := tF s (by omega)
            rw [hg] at this
            exact this
      · rintro σ H6 ⟨x6, v4, v5, v6, v7, v8, F, rfl, dD6, lF, okF, cF⟩
        walk_at "r0"
        refine q D H6 (kvF F) (SameX.out e5 x6 hD1) dD6 ⟨F, rfl, ?_, ?_, ?_, ?_⟩
        · have := dD6.nodup
          unfold kvF at this
          rw [List.map_map] at this
          have e : (F.map ((fun x : NestedKey × V => x.1) ∘ fun s : FE => (k3 s.1, V.int s.2))) = (F.map (·.1)).map k3 := by rw [List.map_map]; rfl
          rw [e] at this
          exact List.Pairwise.of_map k3 (fun a b h z => h (congrArg k3 z)) this
        · obtain ⟨z, hz⟩ := cF 0 (Nat.zero_le _) (by omega) (many, none) (by rw [lv.z]; exact List.mem_singleton.mpr rfl)
          exact ⟨z, hz⟩
        · intro x hx
          obtain ⟨_, a2, a3, a4⟩ := okF x hx
          obtain ⟨b1, b2⟩ := (lv.ok x.1.1 a2).1 _ a3
          exact ⟨a2, b1, b2, a4⟩
        · intro x hx hlt
          obtain ⟨_, a2, a3, a4⟩ := okF x hx
          obtain ⟨s1, s2⟩ := lv.st x.1.1 hlt _ a3
          refine ⟨fun h0 => ?_, fun h0 => ?_⟩
          · obtain ⟨z, hz⟩ := cF (x.1.1 + 1) hlt (by omega) _ (s1 (by simp only; omega))
            refine ⟨z, ?_⟩
            simp only [h0] at hz
            exact hz
          · obtain ⟨z, hz⟩ := cF (x.1.1 + 1) hlt (by omega) _ (s2 h0)
            exact ⟨z, hz⟩
end
end G


set_option Elab.async false
set_option linter.all false
set_option maxRecDepth 100000
set_option maxHeartbeats 4000000
/-! Keys hash apart. -/
namespace G
open PySem PySem.Spec PyProof.Rows L2
def oC (o : Nat) : Option Int := match o with
  | 0 => none
  | n + 1 => some (n : Nat)
def hO (o : Option Int) : Int := match o with
  | none => reduceHash 0xFCA86420
  | some i => hashInt i
def h3 (a l : Nat) (o : Option Int) : Int := reduceHash (Builtin.Tuple.tupleHashOf [hashInt (a : Nat), hashInt (l : Nat), hO o])
def candS : List (Nat × Nat × Nat) := (List.range 11).flatMap fun a => (List.range 11).flatMap fun l => (List.range 8).map fun o => (a, l, o)
def cand3 : List Int := candS.map fun x => h3 x.1 x.2.1 (oC x.2.2)
/-- strictly apart, asked from the left -/
def apartB : List Int → Bool
  | [] => true
  | x :: xs => (xs.all fun y => x != y) && apartB xs
def apartM (m : Nat) (xs : List Int) : Bool := (List.range m).all fun r => apartB (xs.filter fun x => x % (m : Int) == (r : Int))
theorem apartB_pw : ∀ {xs : List Int}, apartB xs = true → xs.Pairwise (· ≠ ·)
  | [], _ => .nil
  | x :: xs, h => by
    unfold apartB at h
    rw [Bool.and_eq_true, List.all_eq_true] at h
    refine .cons (fun y hy => ?_) (apartB_pw h.2)
    have := h.1 y hy
    simpa using this
theorem pw_of {m : Nat} : ∀ {xs : List Int}, (∀ x ∈ xs, ∃ r : Nat, x % (m : Int) = (r : Int) ∧ r < m) → (∀ r : Nat, r < m → (xs.filter fun x => x % (m : Int) == (r : Int)).Pairwise (· ≠ ·)) → xs.Pairwise (· ≠ ·)
  | [], _, _ => .nil
  | x :: xs, hr, h => by
    refine .cons (fun y hy e => ?_) (pw_of (fun z hz => hr z (List.mem_cons_of_mem _ hz)) fun r hrm => ?_)
    · obtain ⟨r, e1, e2⟩ := hr x (List.mem_cons_self ..)
      have h1 := h r e2
      rw [List.filter_cons, if_pos (by simpa using e1)] at h1
      have h2 := (List.pairwise_cons.mp h1).1 y (List.mem_filter.mpr ⟨hy, by rw [← e]; simpa using e1⟩)
      exact h2 e
    · have h1 := h r hrm
      rw [List.filter_cons] at h1
      split at h1
      · exact (List.pairwise_cons.mp h1).2
      · exact h1
theorem apartM_pw {m : Nat} (hm : 0 < m) {xs : List Int} (h : apartM m xs = true) : xs.Pairwise (· ≠ ·) := by
  refine pw_of (m := m) (fun x _ => ⟨(x % (m : Int)).toNat, ?_, ?_⟩) fun r hr => ?_
  · have : 0 ≤ x % (m : Int) := Int.emod_nonneg _ (by omega)
    omega
  · have h1 : x % (m : Int) < m := Int.emod_lt_of_pos _ (by omega)
    have : 0 ≤ x % (m : Int) := Int.emod_nonneg _ (by omega)
    omega
  · unfold apartM at h
    rw [List.all_eq_true] at h
    exact apartB_pw (h r (List.mem_range.mpr hr))
theorem nod3 : apartM 24 cand3 = true := by decide +kernel
theorem inj_of {α : Type} {f : α → Int} : ∀ {l : List α}, (l.map f).Pairwise (· ≠ ·) → ∀ x ∈ l, ∀ y ∈ l, f x = f y → x = y
  | [], _, _, h, _, _, _ => nomatch h
  | a :: l, h, x, hx, y, hy, e => by
    rw [List.map_cons] at h
    obtain ⟨h1, h2⟩ := List.pairwise_cons.mp h
    rcases List.mem_cons.mp hx with rfl | hx
    · rcases List.mem_cons.mp hy with rfl | hy
      · rfl
      · exact absurd e (h1 _ (List.mem_map.mpr ⟨y, hy, rfl⟩))
    · rcases List.mem_cons.mp hy with hya | hy
      · rw [hya] at e
        exact absurd e.symm (h1 _ (List.mem_map.mpr ⟨x, hx, rfl⟩))
      · exact inj_of h2 x hx y hy e
theorem memS {a l o : Nat} (ha : a < 11) (hl : l < 11) (ho : o < 8) : (a, l, o) ∈ candS := by
  unfold candS
  exact List.mem_flatMap.mpr ⟨a, List.mem_range.mpr ha, List.mem_flatMap.mpr ⟨l, List.mem_range.mpr hl, List.mem_map.mpr ⟨o, List.mem_range.mpr ho, rfl⟩⟩⟩
theorem h3_inj {a l o a' l' o' : Nat} (ha : a < 11) (hl : l < 11) (ho : o < 8) (ha' : a' < 11) (hl' : l' < 11) (ho' : o' < 8) (e : h3 a l (oC o) = h3 a' l' (oC o')) : a = a' ∧ l = l' ∧ o = o' := by
  have := inj_of (apartM_pw (by decide) nod3) _ (memS ha hl ho) _ (memS ha' hl' ho') e
  cases this
  exact ⟨rfl, rfl, rfl⟩
theorem oC_of {o : Option Int} (h : ∀ i, o = some i → 0 ≤ i ∧ i ≤ 6) : ∃ n, n < 8 ∧ o = oC n := by
  cases o with
  | none => exact ⟨0, by decide, rfl⟩
  | some i =>
    obtain ⟨h1, h2⟩ := h i rfl
    refine ⟨i.toNat + 1, by omega, ?_⟩
    show some i = some ((i.toNat : Nat) : Int)
    rw [Int.toNat_of_nonneg h1]
/-- A WHILE: W what stands at a measure; N, what is to be shown behind a turn -/
theorem whileW {c : TT} {tb : TS} {D : Ends} {σ : L2.St} {H : Hp} (W : Nat → L2.St → Hp → Prop) (h0 : ∃ m, W m σ H)
    (hs : ∀ (m : Nat) (σ : L2.St) (H : Hp) (N : L2.St → Hp → Prop), W m σ H → (∀ σ' H', N σ' H' → ∃ m', m' < m ∧ W m' σ' H') → (∀ m' σ' H', m' < m → W m' σ' H' → N σ' H') →
      c σ H fun b H1 => if b = true then ∃ N' : L2.St → Hp → Prop, (∀ σ' H', N' σ' H' → ∃ m', m' < m ∧ W m' σ' H') ∧ tb { D with nx := N', ct := N', bk := D.nx } σ H1 else D.nx σ H1) : tWhile c tb D σ H :=
  ⟨W, h0, fun m σ H w => hs m σ H (fun σ' H' => ∃ m', m' < m ∧ W m' σ' H') w (fun _ _ h => h) fun m' _ _ h w => ⟨m', h, w⟩⟩
end G


set_option Elab.async false
set_option linter.all false
set_option maxRecDepth 100000
set_option maxHeartbeats 4000000
set_option pp.deepTerms true
set_option pp.maxSteps 100000
set_option format.width 230
namespace G
open PySem PySem.Spec PyProof.Rows L2
local macro_rules | `(tactic| walk_at "rd") => `(tactic| try simp only [cxOf_K, tSeq, tIfS, tTest, tB, tCB, tCons, tNil, tC, tVar, tOp, tUn, tAndV, tOrV, tNotV, tAnd, tOr, tNot, tIf, tChain, tRet, tRetN, tAsg, gName, tDrop, tNext, tCallS, WE, rI0, rI, rU, L2.start, tYes, tLc, tFor, gTup, gCons, gNil, tPar, tPar3, tAug, ipI, tWidth, tCall, tMeth, tMake, tFld, tRows, tTable, sFld, rMulT, rSumT, gSub, tBM, rAppend, rSetL, rExtend, rSlL, rSlQ, tCol, Int.toNat_natCast,  tSl, tNoPart, tPart, tTup, tLst, tNever, itu_g, sDPut, tDNewK, tDNewN, tDispN, rSetN, rIxN, rInN, tGetN, rGetN, iKN, iIN, iRg3, iRng3, rGetL, tAugS, tNo, rCopyN, rRep,
  List.map_cons, List.map_nil, List.length_cons, List.length_nil, List.cons_append, List.nil_append, List.replicate, Nat.reduceAdd, Nat.reduceSub, Nat.zero_add, Nat.sub_self,
  List.getElem?_cons_zero, List.getElem?_cons_succ, List.set_cons_zero, List.set_cons_succ, wipe, Option.some.injEq, exists_eq_left', exists_eq_left, V.bl.injEq, V.int.injEq, ref_inj, ty_inj, if_true, if_false, Bool.false_eq_true, Bool.true_eq_false, exists_const, exists_and_left, true_and, and_true, List.cons.injEq,
  isB_int, isB_bool, isB_tuple, isB_list, isT_at, iSq, iRg1, iRg2, iZ2, iZ3, iEn])
local macro_rules | `(tactic| walk_at "r1") => `(tactic| try simp only [cxOf_K, tSeq, tIfS, tTest, tB, tCB, tCons, tNil, tC, tVar, tOp, tUn, tAndV, tOrV, tNotV, tAnd, tOr, tNot, tIf, tChain, tRet, tRetN, tAsg, gName, tDrop, tNext, tCallS, WE, rI0, rI, rU, L2.start, tYes, gTup, gCons, gNil, tPar, tPar3, tAug, ipI, tWidth, tCall, tMeth, tMake, tFld, tRows, tTable, sFld, rMulT, rSumT, gSub, tBM, rAppend, rSetL, rExtend, rSlL, rSlQ, tCol, Int.toNat_natCast,  tSl, tNoPart, tPart, tTup, tLst, tNever, itu_g, sDPut, tDNewK, tDNewN, tDispN, rSetN, rIxN, rInN, tGetN, rGetN, iKN, iIN, iRg3, iRng3, rGetL, tAugS, tNo, rCopyN, rRep,
  List.map_cons, List.map_nil, List.length_cons, List.length_nil, List.cons_append, List.nil_append, List.replicate, Nat.reduceAdd, Nat.reduceSub, Nat.zero_add, Nat.sub_self,
  List.getElem?_cons_zero, List.getElem?_cons_succ, List.set_cons_zero, List.set_cons_succ, wipe, Option.some.injEq, exists_eq_left', exists_eq_left, V.bl.injEq, V.int.injEq, ref_inj, ty_inj, if_true, if_false, Bool.false_eq_true, Bool.true_eq_false, exists_const, exists_and_left, true_and, and_true, List.cons.injEq,
  isB_int, isB_bool, isB_tuple, isB_list, isT_at, iSq, iRg1, iRg2, iZ2, iZ3, iEn])
local macro_rules | `(tactic| walk_at "r0") => `(tactic| try simp only [cxOf_K, tIfS, tTest, tB, tCB, tCons, tNil, tC, tVar, tOp, tUn, tAndV, tOrV, tNotV, tAnd, tOr, tNot, tIf, tChain, tRet, tRetN, tAsg, gName, tDrop, tNext, tCallS, WE, rI0, rI, rU, L2.start, tYes, gTup, gCons, gNil, tPar, tPar3, tAug, ipI, tWidth, tCall, tMeth, tMake, tFld, tRows, tTable, sFld, rMulT, rSumT, gSub, tBM, rAppend, rSetL, rExtend, rSlL, rSlQ, tCol, Int.toNat_natCast,  tSl, tNoPart, tPart, tTup, tLst, tNever, itu_g, sDPut, tDNewK, tDNewN, tDispN, rSetN, rIxN, rInN, tGetN, rGetN, iKN, iIN, iRg3, iRng3, rGetL, tAugS, tNo, rCopyN, rRep,
  List.map_cons, List.map_nil, List.length_cons, List.length_nil, List.cons_append, List.nil_append, List.replicate, Nat.reduceAdd, Nat.reduceSub, Nat.zero_add, Nat.sub_self,
  List.getElem?_cons_zero, List.getElem?_cons_succ, List.set_cons_zero, List.set_cons_succ, wipe, Option.some.injEq, exists_eq_left', exists_eq_left, V.bl.injEq, V.int.injEq, ref_inj, ty_inj, if_true, if_false, Bool.false_eq_true, Bool.true_eq_false, exists_const, exists_and_left, true_and, and_true, List.cons.injEq,
  isB_int, isB_bool, isB_tuple, isB_list, isT_at, iSq, iRg1, iRg2, iZ2, iZ3, iEn])
local macro_rules | `(tactic| walk_at "st") => `(tactic| ((try dsimp only); rw [tSeq_def]))
local macro_rules | `(tactic| walk_at "lp") => `(tactic| first | rw [tFor_def] | rw [tLc_def] | rw [tWhile_def])
local macro_rules | `(tactic| walk_at "ex") => `(tactic| simp only [List.cons.injEq, and_true, true_and, and_assoc, exists_and_left, exists_eq_left', exists_eq_left, exists_eq_right, exists_const, V.int.injEq, V.bl.injEq, ref_inj, Bool.not_true, Bool.not_false, Bool.false_eq_true, if_true, if_false, Bool.true_eq_false])
section
variable {P : Program} {w : World} {K : PySem.W.Frag} {mg : Str → Option Value} {base : Heap} {a : Ad}
theorem hash_k3 (w : World) (x : St3) : (k3 x).hash w = h3 x.1 x.2.1 x.2.2 := by
  obtain ⟨a, l, o⟩ := x
  cases o <;> rfl
theorem kvF_hash (w : World) (S : List FE) : (kvF S).map (fun p => p.1.hash w) = (S.map (·.1)).map fun x => h3 x.1 x.2.1 x.2.2 := by
  induction S with
  | nil => rfl
  | cons s S ih =>
    show (k3 s.1).hash w :: (kvF S).map (fun p => p.1.hash w) = _
    rw [ih, hash_k3]
    rfl
theorem nod_L (L : List St3) (nd : L.Nodup) (ok' : ∀ x ∈ L, x.1 < 11 ∧ x.2.1 < 11 ∧ ∃ n, n < 8 ∧ x.2.2 = oC n) : (L.map fun x => h3 x.1 x.2.1 x.2.2).Nodup := by
  induction L with
  | nil => exact List.nodup_nil
  | cons x L ih =>
    obtain ⟨n1, n2⟩ := List.nodup_cons.mp nd
    rw [List.map_cons]
    refine List.nodup_cons.mpr ⟨fun hx => ?_, ih n2 fun y hy => ok' y (List.mem_cons_of_mem _ hy)⟩
    obtain ⟨y, hy, e⟩ := List.mem_map.mp hx
    obtain ⟨a1, a2, o1, a3, a4⟩ := ok' x (List.mem_cons_self ..)
    obtain ⟨b1, b2, o2, b3, b4⟩ := ok' y (List.mem_cons_of_mem _ hy)
    rw [a4, b4] at e
    obtain ⟨c1, c2, c3⟩ := h3_inj b1 b2 b3 a1 a2 a3 e
    apply n1
    have : x = y := by
      obtain ⟨xa, xl, xo⟩ := x
      obtain ⟨ya, yl, yo⟩ := y
      simp only at a4 b4 c1 c2
      rw [a4, b4, c1, c2, c3]
    rw [this]
    exact hy
theorem flok_hash {xs : List Int} {many : Nat} {kvs : List (NestedKey × V)} (w : World) (h : FlOk xs many kvs) (hn : xs.length ≤ 10) (hm : many ≤ 10) (hv : ∀ z ∈ xs, 0 ≤ z ∧ z ≤ 6) : (kvs.map fun p => p.1.hash w).Nodup := by
  obtain ⟨S, rfl, nd, _, ok, _⟩ := h
  rw [kvF_hash]
  refine nod_L _ nd fun x hx => ?_
  obtain ⟨y, hy, rfl⟩ := List.mem_map.mp hx
  obtain ⟨a1, a2, a3, _⟩ := ok y hy
  refine ⟨by omega, by omega, oC_of fun i hi => ?_⟩
  rcases a3 with h | ⟨j, hj, h⟩
  · rw [h] at hi; exact nomatch hi
  · rw [h] at hi
    cases hi
    exact hv _ (getD_mem hj)
/-- what the top has written of Thinned -/
structure TxTh (K : PySem.W.Frag) (C : Addr) : Prop where
  cl : Cls K C
  nK : NoAttr K C "kept"
  nF : NoAttr K C "floors"
def ThAt (C : Addr) (H : Hp) (v : V) (xs : List V) : Prop := ∃ x dx kt fl, v = .ref x ∧ H x = some (.ins C dx [("kept", .ref kt), ("floors", .ref fl)]) ∧ H kt = some (.tup xs)
/-- Thinned(kept, floors) -/
def spTi (P : Program) (w : World) (K : PySem.W.Frag) (C : Addr) : Sp := fun vs H Q _ => ∃ (x dx kp d : Addr) (xs : List V) (kvs : List (NestedKey × V)), vs = [.ref x, .ref kp, .ref d] ∧ H x = some (.ins C dx []) ∧ (H kp = some (.lst xs) ∨ H kp = some (.tup xs)) ∧ DN P w H d kvs ∧ (kvs.map fun p => p.1.hash w).Nodup ∧
  ∀ H' kt fl, (∀ b o, H b = some o → b ≠ x → H' b = some o) → H' x = some (.ins C dx [("kept", .ref kt), ("floors", .ref fl)]) → H' kt = some (.tup xs) → Q .non H'
abbrev N_Thinned___init__ : List Str := ["self", "kept", "floors"]
theorem ok_thi (D : DefI K mg "Thinned" a.CTh "Thinned.__init__" 65) (T : Txt K mg a) (Tt : TxTh K a.CTh) : MkX P w K mg base 1 "Thinned" a.CTh (spTi P w K a.CTh) := by
  obtain ⟨f, fd, F, mk, hm⟩ := D.ex
  refine ⟨f, fd, ["self", "kept", "floors"], mk, hm, ?_, F.binds fun _ _ _ _ _ _ us hl => match us, hl with | [_, _, _], _ => rfl⟩
  refine fnx (N := N_Thinned___init__) F (by decide +kernel) (fun vs H Q E h => ?_) (fun cdv A outer s H vs Q E hr nd tk pn h => ⟨_, (pss_cons (ps_fld (pv 0) (pe_callTy call_tuple_of (by rfl) T.tuple bi_tuple (pa_cons (pv 1) pa_nil)) rfl)
      (pss_one (ps_fld (pv 0) (pe_callTy (copyN (P := P) (w := w) rfl rfl hr.units) (by rfl) T.dict bi_dict (pa_cons (pv 2) pa_nil)) rfl))), ?_⟩)
  · obtain ⟨_, _, _, _, _, _, rfl, _⟩ := h
    rfl
  · obtain ⟨x, dx, kp, d, xs, kvs, rfl, hx, hk, hd, hn, q⟩ := h
    clear tk pn nd hr
    walk_at "r1"
    have two : ∀ (H1 : Hp) (kt : Addr), Same H H1 → H1 kt = some (.tup xs) → H1 x = some (.ins a.CTh dx []) → ∀ p H', upd H1 x (.ins a.CTh dx (putF "kept" (.ref kt) [])) p = none → Same (upd H1 x (.ins a.CTh dx (putF "kept" (.ref kt) []))) H' →
        ∃ x_6 x_7 x_8, H' x = some (HO.ins x_6 x_7 x_8) ∧ Cls K x_6 ∧ NoAttr K x_6 "floors" ∧ x_8.length < 1000 ∧ Q V.non (upd H' x (HO.ins x_6 x_7 (putF "floors" (V.ref p) x_8))) := by
      intro H1 kt e1 hkt hx1 p H' hp e2
      refine ⟨a.CTh, dx, _, e2 _ _ upd_same, Tt.cl, Tt.nF, (by show 1 < 1000; decide), ?_⟩
      refine q _ kt p (fun b o hb hne => ?_) upd_same ?_
      · rw [upd_ne hne]
        exact e2 _ _ (by rw [upd_ne hne]; exact e1 _ _ hb)
      · have nk : kt ≠ x := fun z => by rw [z, hx1] at hkt; exact nomatch hkt
        rw [upd_ne nk]
        exact e2 _ _ (by rw [upd_ne nk]; exact hkt)
    have dx' : ∀ (H1 : Hp) (o : HO), Same H H1 → H1 x = some (.ins a.CTh dx []) → DN P w (upd H1 x o) d kvs := fun H1 o e1 hx1 => by
      have z := hd.same e1
      obtain ⟨ob, ho⟩ := z.raw
      exact z.kx (fun e => by rw [e, hx1] at ho; exact nomatch ho) (fun ys e => by rw [hx1] at e; exact nomatch e) ((SameX.refl _ _).upd)
    rcases hk with hk | hk
    · refine ⟨xs, .inl ⟨SqL.of hk, fun l hl => ?_⟩⟩
      have e1 : Same H (upd H l (.tup xs)) := same_new (Same.refl _) hl
      have hl1 : upd H l (.tup xs) l = some (.tup xs) := upd_same
      generalize upd H l (.tup xs) = H1 at e1 hl1 ⊢
      refine ⟨a.CTh, dx, [], e1 _ _ hx, Tt.cl, Tt.nK, by decide, kvs, dx' _ _ e1 (e1 _ _ hx), hn, fun p H' hp e2 _ => two H1 l e1 hl1 (e1 _ _ hx) p H' hp e2⟩
    · exact ⟨xs, .inr ⟨SqT.of hk, a.CTh, dx, [], hx, Tt.cl, Tt.nK, by decide, kvs, dx' _ _ (Same.refl _) hx, hn, fun p H' hp e2 _ => two H kp (Same.refl _) hk hx p H' hp e2⟩⟩
/-- Thinned(kept, floors), as an expression -/
def tThin (P : Program) (w : World) (C : Addr) (t : TA) : TE := fun σ H Q => t σ H fun vs H1 => ∃ (kp d : Addr) (xs : List V) (kvs : List (NestedKey × V)), vs = [.ref kp, .ref d] ∧ (H1 kp = some (.lst xs) ∨ H1 kp = some (.tup xs)) ∧ DN P w H1 d kvs ∧ (kvs.map fun p => p.1.hash w).Nodup ∧
  ∀ v H', Same H1 H' → ThAt C H' v xs → Q v H'
theorem pe_mkThinned {X : Cx} {k j : Nat} {C : Addr} {x : Str} {p pos : Pos} {e : Expr} {es : List Expr} {t : TA} (c : MkX X.prog X.w X.K X.mg X.base k x C (spTi P w K C)) (hP : X.prog = P) (hw : X.w = w) (hr : Room j X.A) (hk : k + 1 ≤ j) (ha : PA X (e :: es) t) (hg : Gl X x := by rfl)
    (hdb : (x == ("__debug__" : Str)) = false := by decide) (he : starEach (e :: es) X.env = (false, eval e X.env) :: starEach es X.env := by rfl) (hpl : (backTo pos (starEach es X.env)).any (·.1) = false := by rfl) :
    PE X (.Call (.Name x p) (e :: es) [] pos) (tThin P w C t) := by
  obtain ⟨f, fd, ps, M, hm, F, b⟩ := c.ex
  refine ⟨fun pins s σ H Q I h => ?_⟩
  refine wpAny_Call_Name_kw (ld_glob I hg hm ?_ hdb)
  refine PySem.W.callWith_K (h₀ := X.base) I.ok.mod.kin M.kp (thn (ha.run pos pins s σ H _ I h) fun us s1 ⟨vs, H1, I1, r, q⟩ => ⟨I1.kIn, ?_⟩) he hpl
  refine run_make (dvs := []) M F (hr.mono hk) b .nil passL I1 r fun x dx nx ndx nex => ?_
  obtain ⟨kp, d, xs, kvs, rfl, hkp, hd, hn, q⟩ := q
  have s0 : Same H1 (upd (upd H1 dx (.own x)) x (.ins C dx [])) := fun b o e => by
    rw [upd_ne (ne_of_none e nx), upd_ne (ne_of_none e ndx)]
    exact e
  refine ⟨x, dx, kp, d, xs, kvs, rfl, upd_same, hkp.elim (fun h => .inl (s0 _ _ h)) (fun h => .inr (s0 _ _ h)), hd.same s0, hn, fun H' kt fl k hx hkt => ⟨rfl, ?_⟩⟩
  exact q _ H' (fun b o e => k b o (s0 b o e) (ne_of_none e nx)) ⟨x, dx, kt, fl, rfl, hx, hkt⟩
end
end G


set_option Elab.async false
set_option linter.all false
set_option maxRecDepth 100000
set_option maxHeartbeats 4000000
set_option pp.deepTerms true
set_option pp.maxSteps 100000
set_option format.width 230
namespace G
open PySem PySem.Spec PyProof.Rows L2
local macro_rules | `(tactic| walk_at "rd") => `(tactic| try simp only [cxOf_K, tSeq, tIfS, tTest, tB, tCB, tCons, tNil, tC, tVar, tOp, tUn, tAndV, tOrV, tNotV, tAnd, tOr, tNot, tIf, tChain, tRet, tRetN, tAsg, gName, tDrop, tNext, tCallS, WE, rI0, rI, rU, L2.start, tYes, tLc, tFor, gTup, gCons, gNil, tPar, tPar3, tAug, ipI, tWidth, tCall, tMeth, tMake, tFld, tRows, tTable, sFld, rMulT, rSumT, gSub, tBM, rAppend, rSetL, rExtend, rSlL, rSlQ, tCol, Int.toNat_natCast,  tSl, tNoPart, tPart, tTup, tLst, tNever, itu_g, sDPut, tDNewK, tDNewN, tDispN, rSetN, rIxN, rInN, tGetN, rGetN, iKN, iIN, iRg3, iRng3, rGetL, tAugS, tNo, rCopyN, rRep,
  List.map_cons, List.map_nil, List.length_cons, List.length_nil, List.cons_append, List.nil_append, List.replicate, Nat.reduceAdd, Nat.reduceSub, Nat.zero_add, Nat.sub_self,
  List.getElem?_cons_zero, List.getElem?_cons_succ, List.set_cons_zero, List.set_cons_succ, wipe, Option.some.injEq, exists_eq_left', exists_eq_left, V.bl.injEq, V.int.injEq, ref_inj, ty_inj, if_true, if_false, Bool.false_eq_true, Bool.true_eq_false, exists_const, exists_and_left, true_and, and_true, List.cons.injEq,
  isB_int, isB_bool, isB_tuple, isB_list, isT_at, iSq, iRg1, iRg2, iZ2, iZ3, iEn])
local macro_rules | `(tactic| walk_at "r1") => `(tactic| try simp only [cxOf_K, tSeq, tIfS, tTest, tB, tCB, tCons, tNil, tC, tVar, tOp, tUn, tAndV, tOrV, tNotV, tAnd, tOr, tNot, tIf, tChain, tRet, tRetN, tAsg, gName, tDrop, tNext, tCallS, WE, rI0, rI, rU, L2.start, tYes, gTup, gCons, gNil, tPar, tPar3, tAug, ipI, tWidth, tCall, tMeth, tMake, tFld, tRows, tTable, sFld, rMulT, rSumT, gSub, tBM, rAppend, rSetL, rExtend, rSlL, rSlQ, tCol, Int.toNat_natCast,  tSl, tNoPart, tPart, tTup, tLst, tNever, itu_g, sDPut, tDNewK, tDNewN, tDispN, rSetN, rIxN, rInN, tGetN, rGetN, iKN, iIN, iRg3, iRng3, rGetL, tAugS, tNo, rCopyN, rRep,
  List.map_cons, List.map_nil, List.length_cons, List.length_nil, List.cons_append, List.nil_append, List.replicate, Nat.reduceAdd, Nat.reduceSub, Nat.zero_add, Nat.sub_self,
  List.getElem?_cons_zero, List.getElem?_cons_succ, List.set_cons_zero, List.set_cons_succ, wipe, Option.some.injEq, exists_eq_left', exists_eq_left, V.bl.injEq, V.int.injEq, ref_inj, ty_inj, if_true, if_false, Bool.false_eq_true, Bool.true_eq_false, exists_const, exists_and_left, true_and, and_true, List.cons.injEq,
  isB_int, isB_bool, isB_tuple, isB_list, isT_at, iSq, iRg1, iRg2, iZ2, iZ3, iEn])
local macro_rules | `(tactic| walk_at "r0") => `(tactic| try simp only [cxOf_K, tIfS, tTest, tB, tCB, tCons, tNil, tC, tVar, tOp, tUn, tAndV, tOrV, tNotV, tAnd, tOr, tNot, tIf, tChain, tRet, tRetN, tAsg, gName, tDrop, tNext, tCallS, WE, rI0, rI, rU, L2.start, tYes, gTup, gCons, gNil, tPar, tPar3, tAug, ipI, tWidth, tCall, tMeth, tMake, tFld, tRows, tTable, sFld, rMulT, rSumT, gSub, tBM, rAppend, rSetL, rExtend, rSlL, rSlQ, tCol, Int.toNat_natCast,  tSl, tNoPart, tPart, tTup, tLst, tNever, itu_g, sDPut, tDNewK, tDNewN, tDispN, rSetN, rIxN, rInN, tGetN, rGetN, iKN, iIN, iRg3, iRng3, rGetL, tAugS, tNo, rCopyN, rRep,
  List.map_cons, List.map_nil, List.length_cons, List.length_nil, List.cons_append, List.nil_append, List.replicate, Nat.reduceAdd, Nat.reduceSub, Nat.zero_add, Nat.sub_self,
  List.getElem?_cons_zero, List.getElem?_cons_succ, List.set_cons_zero, List.set_cons_succ, wipe, Option.some.injEq, exists_eq_left', exists_eq_left, V.bl.injEq, V.int.injEq, ref_inj, ty_inj, if_true, if_false, Bool.false_eq_true, Bool.true_eq_false, exists_const, exists_and_left, true_and, and_true, List.cons.injEq,
  isB_int, isB_bool, isB_tuple, isB_list, isT_at, iSq, iRg1, iRg2, iZ2, iZ3, iEn])
local macro_rules | `(tactic| walk_at "st") => `(tactic| ((try dsimp only); rw [tSeq_def]))
local macro_rules | `(tactic| walk_at "lp") => `(tactic| first | rw [tFor_def] | rw [tLc_def] | rw [tWhile_def])
local macro_rules | `(tactic| walk_at "ex") => `(tactic| simp only [List.cons.injEq, and_true, true_and, and_assoc, exists_and_left, exists_eq_left', exists_eq_left, exists_eq_right, exists_const, V.int.injEq, V.bl.injEq, ref_inj, Bool.not_true, Bool.not_false, Bool.false_eq_true, if_true, if_false, Bool.true_eq_false])
section
variable {P : Program} {w : World} {K : PySem.W.Frag} {mg : Str → Option Value} {base : Heap} {a : Ad}
theorem col_vals {R : List (List Int)} {w i : Nat} (S : Shp R w) (hi : i < w) : ∀ z ∈ col R i, 0 ≤ z ∧ z ≤ 6 := by
  intro z hz
  unfold col at hz
  obtain ⟨r, hr, rfl⟩ := List.mem_map.mp hz
  obtain ⟨h1, h2⟩ := S.row r hr
  exact h2 _ (getD_mem (by omega))
/-- what a thinning needs -/
def PreT (a : Ad) (H : Hp) (E : XK) (v p m : V) (ok : Prop) : Prop := Tg a.CT H v ∧ Tg a.CT H p ∧ Tg a.CT H m ∧ (isT a.CT H v = false → Rz E H a.cBT) ∧ (isT a.CT H v = true → ∃ R w, Tb a.CT H v R ∧ Shp R w ∧
  (isNum p 0 (w - 1) = false → Rz E H a.cBC) ∧ (isNum p 0 (w - 1) = true → isNum m 1 R.length = false → Rz E H a.cBI) ∧ (isNum p 0 (w - 1) = true → isNum m 1 R.length = true → ok))
theorem preT_ct {a : Ad} {H : Hp} {E : XK} {v p m : V} {ok : Prop} {Q : VK} (pt : PreT a H E v p m ok) (k : ∀ (R : List (List Int)) (w pi mi : Nat), Tb a.CT H v R → Shp R w → p = .int (pi : Nat) → m = .int (mi : Nat) → pi < w → 1 ≤ mi → mi ≤ R.length → ok → Q .non H) : spTh a [v, p, m] H Q E := by
  obtain ⟨gv, gp, gm, no, yes⟩ := pt
  refine ⟨v, p, m, rfl, gv, gp, gm, no, fun hT => ?_⟩
  obtain ⟨R, w, t, S, q1, q2, q3⟩ := yes hT
  refine ⟨R, w, t, S, q1, q2, fun hp hm => ?_⟩
  have q := q3 hp hm
  obtain ⟨i, rfl, h1, h2⟩ := isNum_of hp
  obtain ⟨j, rfl, h3, h4⟩ := isNum_of hm
  refine k R w i.toNat j.toNat t S ?_ ?_ (by omega) (by omega) (by omega) q
  · rw [Int.toNat_of_nonneg h1]
  · rw [Int.toNat_of_nonneg (by omega)]
def spT (a : Ad) : Sp := fun vs H Q E => ∃ v p m, vs = [v, p, m] ∧ PreT a H E v p m (∀ z H', Same H H' → Q z H')
theorem spCol_at {CT : Addr} {v : V} {H : Hp} {Q : VK} {E : XK} {R : List (List Int)} {w i : Nat} (t : Tb CT H v R) (S : Shp R w) (hi : i < w) (q : ∀ H' L, Same H H' → H L = none → H' L = some (.lst ((col R i).map V.int)) → Q (.ref L) H') : spCol CT [v, .int (i : Nat)] H Q E := ⟨v, R, w, i, rfl, t, S, hi, q⟩
abbrev N_fewest_thinned : List Str := ["table", "place", "many"]
theorem ok_fewest_thinned (D : Def K mg "fewest_thinned" 67) (T : Txt K mg a) (c_check_thin : CalX P w K mg base 4 "check_thin" (spTh a)) (c_column : MetX P w K mg base 4 a.CT "column" (spCol a.CT)) (c_floors_in : CalX P w K mg base 4 "floors_in" (spFl P w)) : CalX P w K mg base 5 "fewest_thinned" (spT a) := by
  refine calx (N := N_fewest_thinned) (ps := ["table", "place", "many"]) D (by decide +kernel) (fun vs H Q E h => ?_) (fun _ _ _ _ _ _ us hl => match us, hl with | [_, _, _], _ => rfl) (fun f cdv A outer s H vs Q E hr nd tk pn h => ⟨_, (pss_cons (ps_expr (pe_cx c_check_thin hr (by decide) tk (pa_cons (pv 0) (pa_cons (pv 1) (pa_cons (pv 2) pa_nil)))))
      (pss_one (ps_ret (pe_ix (ixN' (P := P) (w := w) rfl rfl hr.units) (pe_cx c_floors_in hr (by decide) tk (pa_cons (pe_col c_column T.k.cl hr (by decide) (pv 0) (pa_cons (pv 1) pa_nil)) (pa_cons (pv 2) pa_nil))) (pe_tup (pa_cons pe_int (pa_cons (pv 2) (pa_cons pe_non pa_nil)))) (fun _ _ => rfl))))), ?_⟩)
  · obtain ⟨_, _, _, rfl, _⟩ := h
    rfl
  · obtain ⟨v, p, m, rfl, pt⟩ := h
    clear tk pn nd hr
    walk_at "st"
    walk_at "r0"
    refine preT_ct pt fun R wd pi mi t S hp hm h1 h2 h3 q => ?_
    subst hp hm
    walk_at "r0"
    have Sle := S.le
    refine ⟨⟨R, t⟩, R, wd, pi, rfl, t, S, h1, fun H1 L e1 _ hL => ⟨L, col R pi, mi, rfl, hL, by rw [col_len]; exact Sle, by rw [col_len]; exact h3, fun d H2 kvs e2 hd fo => ⟨by decide, fun b hb => ?_⟩⟩⟩
    have e3 := same_up (o := .tup [.int 0, .int (mi : Nat), .non]) (Same.refl H2) hb
    have hk : KeyAt (upd H2 b (.tup [.int 0, .int (mi : Nat), .non])) b (k3 (0, mi, none)) := key3 (last := none) upd_same rfl rfl
    obtain ⟨S0, rfl, _, hz, _, _⟩ := id fo
    obtain ⟨vv, hv⟩ := Option.isSome_iff_exists.mp (kvF_has hz)
    obtain ⟨x, _, _, ev⟩ := kvF_val hv
    exact ⟨d, rfl, _, hk, _, hd.same e3, _, hv, q _ _ ((e1.trans e2).trans e3)⟩
/-- most_thinned(table, place, many) -/
def spMost (a : Ad) : Sp := fun vs H Q E => ∃ v p m, vs = [v, p, m] ∧ PreT a H E v p m (∀ R pi mi H', Tb a.CT H v R → p = .int (pi : Nat) → m = .int (mi : Nat) → Same H H' → Q (.int ((min mi (runsOf (col R pi)).length : Nat))) H')
abbrev N_most_thinned : List Str := ["table", "place", "many"]
theorem ok_most_thinned (D : Def K mg "most_thinned" 68) (T : Txt K mg a) (M : TabM P w K mg base a.CT) (c_check_thin : CalX P w K mg base 4 "check_thin" (spTh a)) (c_column : MetX P w K mg base 4 a.CT "column" (spCol a.CT)) (c_runs_in : CalX P w K mg base 1 "runs_in" spRuns) :
    CalX P w K mg base 5 "most_thinned" (spMost a) := by
  refine calx (N := N_most_thinned) (ps := ["table", "place", "many"]) D (by decide +kernel) (fun vs H Q E h => ?_) (fun _ _ _ _ _ _ us hl => match us, hl with | [_, _, _], _ => rfl) (fun f cdv A outer s H vs Q E hr nd tk pn h => ⟨_, (pss_cons (ps_expr (pe_cx c_check_thin hr (by decide) tk (pa_cons (pv 0) (pa_cons (pv 1) (pa_cons (pv 2) pa_nil)))))
      (pss_one (ps_ret (pe_callB (call_min2 rfl) (by rfl) T.min bi_min (pa_cons (pv 2) (pa_cons (pe_callB (call_lenK (K := K) rfl M hr (by decide)) (by rfl) T.len bi_len (pa_cons (pe_cx c_runs_in hr (by decide) tk (pa_cons (pe_col c_column T.k.cl hr (by decide) (pv 0) (pa_cons (pv 1) pa_nil)) pa_nil)) pa_nil)) pa_nil)))))), ?_⟩)
  · obtain ⟨_, _, _, rfl, _⟩ := h
    rfl
  · obtain ⟨v, p, m, rfl, pt⟩ := h
    clear tk pn nd hr
    walk_at "st"
    walk_at "r0"
    refine preT_ct pt fun R wd pi mi t S hp hm h1 h2 h3 q => ?_
    subst hp hm
    walk_at "r0"
    simp only [spRuns]
    have Sle := S.le
    refine ⟨⟨R, t⟩, R, wd, pi, rfl, t, S, h1, fun H1 L e1 _ hL => ⟨L, col R pi, rfl, hL, by rw [col_len]; omega, fun r H2 ts e2 _ hr hp => len_l hr ⟨_, _, ⟨rfl, rfl⟩, ?_⟩⟩⟩
    have hz := hp.length
    rw [List.length_map] at hz
    have := q R pi mi H2 t rfl rfl (e1.trans e2)
    rw [List.length_map, hz]
    rw [show (if ((runsOf (col R pi)).length : Int) < (mi : Nat) then ((runsOf (col R pi)).length : Int) else (mi : Nat)) = ((min mi (runsOf (col R pi)).length : Nat) : Int) by split <;> omega]
    exact this
abbrev N_thin : List Str := ["table", "place", "many", "values", "floors", "kept", "state", "at", "left", "last", "late"]
theorem ok_thin (D : Def K mg "thin" 66) (T : Txt K mg a) (M : TabM P w K mg base a.CT) (c_check_thin : CalX P w K mg base 4 "check_thin" (spTh a)) (c_column : MetX P w K mg base 4 a.CT "column" (spCol a.CT)) (c_floors_in : CalX P w K mg base 4 "floors_in" (spFl P w)) (c_Thinned : MkX P w K mg base 1 "Thinned" a.CTh (spTi P w K a.CTh)) : CalX P w K mg base 5 "thin" (spT a) := by
  refine calx (N := N_thin) (ps := ["table", "place", "many"]) D (by decide +kernel) (fun vs H Q E h => ?_) (fun _ _ _ _ _ _ us hl => match us, hl with | [_, _, _], _ => rfl) (fun f cdv A outer s H vs Q E hr nd tk pn h => ⟨_, (pss_cons (ps_expr (pe_cx c_check_thin hr (by decide) tk (pa_cons (pv 0) (pa_cons (pv 1) (pa_cons (pv 2) pa_nil)))))
      (pss_cons (ps_set (i := 3) nd rfl (Or.inl rfl) (pe_col c_column T.k.cl hr (by decide) (pv 0) (pa_cons (pv 1) pa_nil)))
      (pss_cons (ps_set (i := 4) nd rfl (Or.inl rfl) (pe_cx c_floors_in hr (by decide) tk (pa_cons (pv 3) (pa_cons (pv 2) pa_nil))))
      (pss_cons (ps_par (i := 5) (j := 6) rfl nd rfl rfl (by decide) rfl rfl (pa_cons (pe_lst pa_nil) (pa_cons (pe_tup (pa_cons pe_int (pa_cons (pv 2) (pa_cons pe_non pa_nil)))) pa_nil)) (by rfl))
      (pss_cons (ps_while pn (pt_cmpR op_lt (pe_ix (ixK (K := K) rfl) (pv 6) pe_int (fun _ _ => rfl)) (pe_callB (call_lenK (K := K) rfl M hr (by decide)) (by rfl) T.len bi_len (pa_cons (pv 3) pa_nil)) (nomark _))
      (pss_cons (ps_asg (pv 6) (pg_tupK (K := K) (n := 3) rfl rfl (pgs_cons (pg_name (i := 7) nd rfl (Or.inl rfl)) (pgs_cons (pg_name (i := 8) nd rfl (Or.inl rfl)) (pgs_cons (pg_name (i := 9) nd rfl (Or.inl rfl)) pgs_nil)))))
      (pss_cons (ps_set (i := 10) nd rfl (Or.inl rfl) (pe_tup (pa_cons (pe_op op_add (pv 7) pe_int) (pa_cons (pv 8) (pa_cons (pv 9) pa_nil)))))
      (pss_one (ps_if (PW.pt (pw_and (pt_cmpR (inN (P := P) (w := w) rfl rfl hr.units) (pv 10) (pv 4) rfl) (pw_and1 (pt_cmpR op_eq (pe_ix (ixN' (P := P) (w := w) rfl rfl hr.units) (pv 4) (pv 10) (fun _ _ => rfl)) (pe_ix (ixN' (P := P) (w := w) rfl rfl hr.units) (pv 4) (pv 6) (fun _ _ => rfl)) (nomark _)))))
      (pss_one (ps_set (i := 6) nd rfl (Or.inl rfl) (pv 10)))
      (pss_cons (ps_expr (pe_bm PySem.F.plainAttrs_list PySem.F.slot_list_append PySem.F.type_list_append mt_append (pv 5) (pa_cons (pv 7) pa_nil)))
      (pss_one (ps_set (i := 6) nd rfl (Or.inl rfl) (pe_tup (pa_cons (pe_op op_add (pv 7) pe_int) (pa_cons (pe_op op_sub (pv 8) pe_int) (pa_cons (pe_ix (ixK (K := K) rfl) (pv 3) (pv 7) (fun _ _ => rfl)) pa_nil))))))))))))
      (pss_one (ps_ret (pe_mkThinned c_Thinned rfl rfl hr (by decide) (pa_cons (pv 5) (pa_cons (pv 4) pa_nil)))))))))), ?_⟩)
  · obtain ⟨_, _, _, rfl, _⟩ := h
    rfl
  · obtain ⟨v, p, m, rfl, pt⟩ := h
    clear tk pn nd hr
    walk_at "st"
    walk_at "r0"
    refine preT_ct pt fun R wd pi mi t S hp hm h1 h2 h3 q => ?_
    subst hp hm
    walk_at "st"
    walk_at "r0"
    have Sle := S.le
    refine ⟨⟨R, t⟩, R, wd, pi, rfl, t, S, h1, fun H1 L e1 _ hL => ?_⟩
    walk_at "st"
    walk_at "r0"
    refine ⟨L, col R pi, mi, rfl, hL, by rw [col_len]; exact Sle, by rw [col_len]; exact h3, fun d H2 kvs e2 hd fo => ?_⟩
    have hh := flok_hash w fo (by rw [col_len]; exact Sle) (by omega) (col_vals S h1)
    have hL2 := e2 _ _ hL
    walk_at "st"
    walk_at "r0"
    refine ⟨by decide, fun Kp hKp => ⟨by decide, fun b hb => ⟨_, _, ⟨rfl, rfl⟩, ?_⟩⟩⟩
    have e3 : Same H2 (upd (upd H2 Kp (.lst [])) b (.tup [.int 0, .int (mi : Nat), .non])) := same_up (same_new (Same.refl _) hKp) hb
    have hf3 : upd (upd H2 Kp (.lst [])) b (.tup [.int 0, .int (mi : Nat), .non]) Kp = some (.lst (([] : List Int).map V.int)) := upd_lst upd_same hb
    have hb3 : upd (upd H2 Kp (.lst [])) b (.tup [.int 0, .int (mi : Nat), .non]) b = some (.tup [.int ((0 : Nat) : Int), .int (mi : Nat), oV none]) := upd_same
    have nLK : L ≠ Kp := ne_of_none hL2 hKp
    have hKp0 : H Kp = none := (e1.trans e2).free hKp
    have e03 := (e1.trans e2).trans e3
    have hd3 := hd.same e3
    have hL3 := e3 _ _ hL2
    generalize upd (upd H2 Kp (.lst [])) b (.tup [.int 0, .int (mi : Nat), .non]) = H3 at e3 hf3 hb3 e03 hd3 hL3 ⊢
    obtain ⟨S0, rfl, nd0, hz0, ok0, st0⟩ := id fo
    have uniq : ∀ {k : St3} {v : V}, valV (kvF S0) (k3 k) = some v → ∃ z, (k, z) ∈ S0 ∧ v = .int z := fun {k v} hv => by
      obtain ⟨x, hx, ek, ev⟩ := kvF_val hv
      exact ⟨x.2, by rw [k3_inj ek]; exact hx, ev⟩
    have zero : ∀ {k : St3} {z : Int}, (k, z) ∈ S0 → k.2.1 = 0 → z = 0 := fun {k z} hk h0 => (ok0 _ hk).2.2.2 h0
    have hcl := col_len R pi
    walk_at "st"
    refine whileW (fun m σ H' => SameX Kp H3 H' ∧ ∃ (at_ left : Nat) (last : Option Int) (b : Addr) (ks : List Int) (v7 v8 v9 v10 : Option V), σ = [some v, some (.int (pi : Nat)), some (.int (mi : Nat)), some (.ref L), some (.ref d), some (.ref Kp), some (.ref b), v7, v8, v9, v10] ∧
      H' b = some (.tup [.int (at_ : Nat), .int (left : Nat), oV last]) ∧ (∃ z, ((at_, left, last), z) ∈ S0) ∧ H' Kp = some (.lst (ks.map V.int)) ∧ ks.length ≤ at_ ∧ at_ ≤ R.length ∧ m = R.length - at_)
      ⟨_, SameX.refl _ _, 0, mi, none, b, [], none, none, none, none, rfl, hb3, hz0, hf3, Nat.le_refl _, Nat.zero_le _, rfl⟩ ?_
    rintro m σ H4 N ⟨x4, at_, left, last, b, ks, v7, v8, v9, v10, rfl, hb4, hz4, hk4, hkl, hal, hm⟩ hN1 hN2
    walk_at "r0"
    have hL4 := x4 _ _ hL3 nLK
    refine ix_t hb4 (atI_nat (k := 0) rfl) (len_l hL4 ⟨_, rfl, _, rfl, ?_⟩)
    rw [List.length_map, hcl]
    by_cases hlt : at_ < R.length
    · rw [if_pos (by simpa using hlt)]
      refine ⟨N, hN1, ?_⟩
      walk_at "st"
      walk_at "r0"
      refine un3s hb4 ?_
      walk_at "st"
      walk_at "r0"
      refine ⟨by decide, fun b2 hb2 => ?_⟩
      have e5 := same_up (o := .tup [.int ((at_ : Int) + 1), .int (left : Nat), oV last]) (Same.refl H4) hb2
      have hb5 : upd H4 b2 (.tup [.int ((at_ : Int) + 1), .int (left : Nat), oV last]) b2 = some (.tup [.int ((at_ : Int) + 1), .int (left : Nat), oV last]) := upd_same
      generalize upd H4 b2 (.tup [.int ((at_ : Int) + 1), .int (left : Nat), oV last]) = H5 at e5 hb5 ⊢
      have hk5 : KeyAt H5 b2 (k3 (at_ + 1, left, last)) := key3 hb5 (by omega) rfl
      have hkb5 : KeyAt H5 b (k3 (at_, left, last)) := key3 (e5 _ _ hb4) rfl rfl
      have hd5 := (hd3.x hf3 x4).same e5
      have x5 := x4.same e5
      obtain ⟨z0, hzm⟩ := hz4
      have stp := st0 _ hzm (by rw [hcl]; exact hlt)
      simp only at stp
      have hks5 := e5 _ _ hk4
      have hL5 := e5 _ _ hL4
      generalize hB : tSeq (tDrop (tBM K "list" rAppend (tVar 5) (tCons (tVar 7) tNil))) _ = B
      have other : ∀ Dd : Ends, Dd.nx = N → left ≠ 0 → B Dd [some v, some (.int (pi : Nat)), some (.int (mi : Nat)), some (.ref L), some (.ref d), some (.ref Kp), some (.ref b), some (.int (at_ : Nat)), some (.int (left : Nat)), some (oV last), some (.ref b2)] H5 := by
        intro Dd hDd hleft
        subst hB
        walk_at "st"
        walk_at "r0"
        rw [hDd]
        refine ⟨tyL hks5, _, hks5, small (by simp; omega), ix_l (by rw [upd_ne nLK]; exact hL5) (atI_ints (by rw [hcl]; exact hlt)) ⟨by decide, fun p hp => ?_⟩⟩
        have hgoal : ∃ z, ((at_ + 1, left - 1, some ((col R pi).getD at_ 0)), z) ∈ S0 := stp.2 (by omega)
        refine hN2 (R.length - (at_ + 1)) _ _ (by omega) ⟨(x5.upd).new hp, at_ + 1, left - 1, some ((col R pi).getD at_ 0), p, ks ++ [(at_ : Int)], _, _, _, _, rfl, ?_, hgoal, ?_, by simp; omega, by omega, rfl⟩
        · rw [upd_same, show ((left - 1 : Nat) : Int) = (left : Int) - 1 by omega]
          rfl
        · rw [upd_ne (ne_of_none upd_same hp), upd_same]
          simp
      refine ⟨_, hk5, _, hd5, ?_⟩
      cases hv : valV (kvF S0) (k3 (at_ + 1, left, last)) with
      | none =>
        rw [if_neg (by simp)]
        refine other _ rfl fun h0 => ?_
        have := kvF_has (by have := stp.1 h0; rw [← h0] at this; exact this)
        rw [hv] at this
        exact nomatch this
      | some v1 =>
        rw [if_pos (by simp)]
        obtain ⟨z1, hz1, rfl⟩ := uniq hv
        obtain ⟨v2, hv2⟩ := Option.isSome_iff_exists.mp (kvF_has ⟨z0, hzm⟩)
        obtain ⟨z2, hz2, rfl⟩ := uniq hv2
        refine ⟨_, hk5, _, hd5, _, hv, _, hkb5, _, hd5, _, hv2, rfl, _, rfl, ?_⟩
        rw [dec_int]
        by_cases hzz : z1 = z2
        · rw [if_pos (by simpa using hzz)]
          exact hN2 (R.length - (at_ + 1)) _ _ (by omega) ⟨x5, at_ + 1, left, last, b2, ks, _, _, _, _, rfl, hb5, ⟨z1, hz1⟩, hks5, by omega, by omega, rfl⟩
        · rw [if_neg (by simpa using hzz)]
          refine other _ rfl fun h0 => hzz ?_
          rw [zero hz1 h0, zero hz2 h0]
    · rw [if_neg (by simpa using hlt)]
      simp only [tThin]
      walk_at "r0"
      exact ⟨Kp, d, ⟨rfl, rfl⟩, _, .inl hk4, _, hd3.x hf3 x4, hh, fun z H5 e5 _ => q z H5 ((SameX.out e03 x4 hKp0).trans e5)⟩
end
end G


set_option Elab.async false
set_option linter.all false
set_option maxRecDepth 100000
set_option maxHeartbeats 4000000
set_option pp.deepTerms true
set_option pp.maxSteps 100000
set_option format.width 230
namespace G
open PySem PySem.Spec PyProof.Rows L2
local macro_rules | `(tactic| walk_at "rd") => `(tactic| try simp only [cxOf_K, tSeq, tIfS, tTest, tB, tCB, tCons, tNil, tC, tVar, tOp, tUn, tAndV, tOrV, tNotV, tAnd, tOr, tNot, tIf, tChain, tRet, tRetN, tAsg, gName, tDrop, tNext, tCallS, WE, rI0, rI, rU, L2.start, tYes, tLc, tFor, gTup, gCons, gNil, tPar, tPar3, tAug, ipI, tWidth, tCall, tMeth, tMake, tFld, tRows, tTable, sFld, rMulT, rSumT, gSub, tBM, rAppend, rSetL, rExtend, rSlL, rSlQ, tCol, Int.toNat_natCast,  tSl, tNoPart, tPart, tTup, tLst, tNever, itu_g, sDPut, tDNewK, tDNewN, tDispN, rSetN, rIxN, rInN, tGetN, rGetN, iKN, iIN, iRg3, iRng3, rGetL, tAugS, tNo, rCopyN, rRep,
  List.map_cons, List.map_nil, List.length_cons, List.length_nil, List.cons_append, List.nil_append, List.replicate, Nat.reduceAdd, Nat.reduceSub, Nat.zero_add, Nat.sub_self,
  List.getElem?_cons_zero, List.getElem?_cons_succ, List.set_cons_zero, List.set_cons_succ, wipe, Option.some.injEq, exists_eq_left', exists_eq_left, V.bl.injEq, V.int.injEq, ref_inj, ty_inj, if_true, if_false, Bool.false_eq_true, Bool.true_eq_false, exists_const, exists_and_left, true_and, and_true, List.cons.injEq,
  isB_int, isB_bool, isB_tuple, isB_list, isT_at, iSq, iRg1, iRg2, iZ2, iZ3, iEn])
local macro_rules | `(tactic| walk_at "r1") => `(tactic| try simp only [cxOf_K, tSeq, tIfS, tTest, tB, tCB, tCons, tNil, tC, tVar, tOp, tUn, tAndV, tOrV, tNotV, tAnd, tOr, tNot, tIf, tChain, tRet, tRetN, tAsg, gName, tDrop, tNext, tCallS, WE, rI0, rI, rU, L2.start, tYes, gTup, gCons, gNil, tPar, tPar3, tAug, ipI, tWidth, tCall, tMeth, tMake, tFld, tRows, tTable, sFld, rMulT, rSumT, gSub, tBM, rAppend, rSetL, rExtend, rSlL, rSlQ, tCol, Int.toNat_natCast,  tSl, tNoPart, tPart, tTup, tLst, tNever, itu_g, sDPut, tDNewK, tDNewN, tDispN, rSetN, rIxN, rInN, tGetN, rGetN, iKN, iIN, iRg3, iRng3, rGetL, tAugS, tNo, rCopyN, rRep,
  List.map_cons, List.map_nil, List.length_cons, List.length_nil, List.cons_append, List.nil_append, List.replicate, Nat.reduceAdd, Nat.reduceSub, Nat.zero_add, Nat.sub_self,
  List.getElem?_cons_zero, List.getElem?_cons_succ, List.set_cons_zero, List.set_cons_succ, wipe, Option.some.injEq, exists_eq_left', exists_eq_left, V.bl.injEq, V.int.injEq, ref_inj, ty_inj, if_true, if_false, Bool.false_eq_true, Bool.true_eq_false, exists_const, exists_and_left, true_and, and_true, List.cons.injEq,
  isB_int, isB_bool, isB_tuple, isB_list, isT_at, iSq, iRg1, iRg2, iZ2, iZ3, iEn])
local macro_rules | `(tactic| walk_at "r0") => `(tactic| try simp only [cxOf_K, tIfS, tTest, tB, tCB, tCons, tNil, tC, tVar, tOp, tUn, tAndV, tOrV, tNotV, tAnd, tOr, tNot, tIf, tChain, tRet, tRetN, tAsg, gName, tDrop, tNext, tCallS, WE, rI0, rI, rU, L2.start, tYes, gTup, gCons, gNil, tPar, tPar3, tAug, ipI, tWidth, tCall, tMeth, tMake, tFld, tRows, tTable, sFld, rMulT, rSumT, gSub, tBM, rAppend, rSetL, rExtend, rSlL, rSlQ, tCol, Int.toNat_natCast,  tSl, tNoPart, tPart, tTup, tLst, tNever, itu_g, sDPut, tDNewK, tDNewN, tDispN, rSetN, rIxN, rInN, tGetN, rGetN, iKN, iIN, iRg3, iRng3, rGetL, tAugS, tNo, rCopyN, rRep,
  List.map_cons, List.map_nil, List.length_cons, List.length_nil, List.cons_append, List.nil_append, List.replicate, Nat.reduceAdd, Nat.reduceSub, Nat.zero_add, Nat.sub_self,
  List.getElem?_cons_zero, List.getElem?_cons_succ, List.set_cons_zero, List.set_cons_succ, wipe, Option.some.injEq, exists_eq_left', exists_eq_left, V.bl.injEq, V.int.injEq, ref_inj, ty_inj, if_true, if_false, Bool.false_eq_true, Bool.true_eq_false, exists_const, exists_and_left, true_and, and_true, List.cons.injEq,
  isB_int, isB_bool, isB_tuple, isB_list, isT_at, iSq, iRg1, iRg2, iZ2, iZ3, iEn])
local macro_rules | `(tactic| walk_at "st") => `(tactic| ((try dsimp only); rw [tSeq_def]))
local macro_rules | `(tactic| walk_at "lp") => `(tactic| first | rw [tFor_def] | rw [tLc_def] | rw [tWhile_def])
local macro_rules | `(tactic| walk_at "ex") => `(tactic| simp only [List.cons.injEq, and_true, true_and, and_assoc, exists_and_left, exists_eq_left', exists_eq_left, exists_eq_right, exists_const, V.int.injEq, V.bl.injEq, ref_inj, Bool.not_true, Bool.not_false, Bool.false_eq_true, if_true, if_false, Bool.true_eq_false])
section
variable {P : Program} {w : World} {K : PySem.W.Frag} {mg : Str → Option Value} {base : Heap} {a : Ad}
/-! ### counts -/
section
variable {α : Type} [DecidableEq α]
def kvG (f : α → NestedKey) (G : List (α × Int)) : List (NestedKey × V) := G.map fun s => (f s.1, .int s.2)
def setG (G : List (α × Int)) (s : α) (z : Int) : List (α × Int) := if s ∈ G.map (·.1) then G.map (fun x => if x.1 = s then (x.1, z) else x) else G ++ [(s, z)]
theorem setG_mem {G : List (α × Int)} {s : α} {z : Int} {x : α × Int} (h : x ∈ setG G s z) : x = (s, z) ∨ x ∈ G := by
  unfold setG at h
  split at h
  · obtain ⟨y, hy, rfl⟩ := List.mem_map.mp h
    split
    · next e => exact .inl (by rw [e])
    · exact .inr hy
  · rcases List.mem_append.mp h with h | h
    · exact .inr h
    · exact .inl (List.mem_singleton.mp h)
theorem setG_len (G : List (α × Int)) (s : α) (z : Int) : (setG G s z).length ≤ G.length + 1 := by
  unfold setG
  split
  · rw [List.length_map]; omega
  · simp
theorem setG_new (F : List (α × Int)) (s : α) (z : Int) : (s, z) ∈ setG F s z := by
  unfold setG
  split
  · next h =>
    obtain ⟨y, hy, e⟩ := List.mem_map.mp h
    exact List.mem_map.mpr ⟨y, hy, by rw [if_pos e, e]⟩
  · exact List.mem_append_right _ (List.mem_singleton.mpr rfl)
theorem setG_old {F : List (α × Int)} {s k : α} {z : Int} (h : ∃ y, (k, y) ∈ F) : ∃ y, (k, y) ∈ setG F s z := by
  by_cases e : k = s
  · exact ⟨z, e ▸ setG_new F s z⟩
  · obtain ⟨y, hy⟩ := h
    refine ⟨y, ?_⟩
    unfold setG
    split
    · exact List.mem_map.mpr ⟨_, hy, if_neg e⟩
    · exact List.mem_append_left _ hy
theorem kvG_put {f : α → NestedKey} (inj : ∀ x y, f x = f y → x = y) (F : List (α × Int)) (s : α) (z : Int) : putK (kvG f F) (f s) (.int z) = kvG f (setG F s z) := by
  unfold putK setG
  have e : ((kvG f F).any fun kv => decide (kv.1 = f s)) = decide (s ∈ F.map (·.1)) := by
    unfold kvG
    rw [List.any_map]
    by_cases h : s ∈ F.map (·.1)
    · rw [decide_eq_true h, List.any_eq_true]
      obtain ⟨y, hy, e⟩ := List.mem_map.mp h
      exact ⟨y, hy, by simp [e]⟩
    · rw [decide_eq_false h, List.any_eq_false]
      intro y hy
      simp only [Function.comp_apply, decide_eq_true_eq]
      intro z
      exact h (List.mem_map.mpr ⟨y, hy, inj _ _ z⟩)
  rw [e]
  by_cases h : s ∈ F.map (·.1)
  · rw [if_pos (decide_eq_true h), if_pos h]
    unfold kvG
    rw [List.map_map, List.map_map]
    refine List.map_congr_left fun y _ => ?_
    simp only [Function.comp_apply]
    by_cases q : y.1 = s
    · rw [if_pos (congrArg f q), if_pos q]
    · rw [if_neg (fun z => q (inj _ _ z)), if_neg q]
  · rw [if_neg (by simp [h]), if_neg h]
    unfold kvG
    simp
theorem kvG_val {f : α → NestedKey} {F : List (α × Int)} {k : NestedKey} {v : V} (h : valV (kvG f F) k = some v) : ∃ x ∈ F, k = f x.1 ∧ v = .int x.2 := by
  obtain ⟨x, hx, e⟩ := List.mem_map.mp (valV_mem h)
  cases e
  exact ⟨x, hx, rfl, rfl⟩
theorem kvG_has {f : α → NestedKey} {F : List (α × Int)} {s : α} (h : ∃ z, (s, z) ∈ F) : (valV (kvG f F) (f s)).isSome = true := by
  obtain ⟨z, hz⟩ := h
  exact valV_some (v := .int z) (List.mem_map.mpr ⟨_, hz, rfl⟩)
theorem kvG_getD {f : α → NestedKey} {F : List (α × Int)} {k : NestedKey} {z : Int} : ∃ y, (valV (kvG f F) k).getD (.int z) = .int y := by
  cases h : valV (kvG f F) k with
  | none => exact ⟨z, rfl⟩
  | some v =>
    obtain ⟨x, _, _, e⟩ := kvG_val h
    exact ⟨x.2, by rw [e]; rfl⟩
theorem kvG_at {f : α → NestedKey} {F : List (α × Int)} {i : Nat} {k : NestedKey} {v : V} (h : (kvG f F)[i]? = some (k, v)) : ∃ x ∈ F, k = f x.1 ∧ v = .int x.2 := by
  unfold kvG at h
  rw [List.getElem?_map] at h
  cases e : F[i]? with
  | none => rw [e] at h; exact nomatch h
  | some x =>
    rw [e] at h
    cases h
    exact ⟨x, List.mem_of_getElem? e, rfl, rfl⟩
end
/-- left, last, runs -/
def kC (x : St3) : NestedKey := .tup [.num (x.1 : Nat), oK x.2.2, .num (x.2.1 : Nat)]
theorem kC_inj (x y : St3) (h : kC x = kC y) : x = y := by
  obtain ⟨a1, l1, o1⟩ := x
  obtain ⟨a2, l2, o2⟩ := y
  unfold kC at h
  simp only [NestedKey.tup.injEq, List.cons.injEq, NestedKey.num.injEq, and_true] at h
  obtain ⟨h1, h2, h3⟩ := h
  rw [oK_inj h2, show a1 = a2 by omega, show l1 = l2 by omega]
theorem keyC {H : Hp} {b : Addr} {i j : Int} {left runs : Nat} {last : Option Int} (h : H b = some (.tup [.int i, oV last, .int j])) (hi : i = (left : Nat)) (hj : j = (runs : Nat)) : KeyAt H b (kC (left, runs, last)) := by
  subst hi hj
  exact keyT3 h (.int _) (nk_o last) (.int _) (Nat.zero_le _) (by rw [oK_depth]; exact Nat.zero_le _) (Nat.zero_le _)
/-- the last run's value -/
def lastR (rs : List (Int × Int)) : Option Int := rs.getLast?.map (·.1)
theorem runStep_last (rs : List (Int × Int)) (v : Int) : lastR (runStep rs v) = some v ∧ (runStep rs v).length = rs.length + (if lastR rs = some v then 0 else 1) := by
  unfold runStep lastR
  cases h : rs.getLast? with
  | none =>
    have := List.getLast?_eq_none_iff.mp h
    subst this
    simp
  | some p =>
    simp only [Option.map_some, Option.some.injEq]
    by_cases e : p.1 = v
    · rw [if_pos e, if_pos e]
      have hne : rs ≠ [] := fun z => by rw [z] at h; exact nomatch h
      have : 0 < rs.length := List.length_pos_iff.mpr hne
      simp
      omega
    · rw [if_neg e, if_neg e]
      simp
theorem runsOf_succ {xs : List Int} {i : Nat} (hi : i < xs.length) : runsOf (xs.take (i + 1)) = runStep (runsOf (xs.take i)) (xs.getD i 0) := by
  unfold runsOf
  rw [List.take_succ, List.getElem?_eq_getElem hi, Option.toList_some, List.foldl_append, List.getD_eq_getElem?_getD, List.getElem?_eq_getElem hi]
  rfl
/-- what a count's states are like, behind the runs rs -/
def CoOk (rs : List (Int × Int)) (i : Nat) (x : St3) : Prop := x.1 ≤ i ∧ x.2.1 ≤ x.1 ∧ (1 ≤ x.1 → 1 ≤ x.2.1) ∧ x.2.1 ≤ rs.length ∧ (x.2.1 = rs.length → x.2.2 = lastR rs) ∧ (x.1 = 0 → x.2.2 = none)
theorem co_skip {rs : List (Int × Int)} {i : Nat} {x : St3} {v : Int} (h : CoOk rs i x) : CoOk (runStep rs v) (i + 1) x := by
  obtain ⟨h1, h2, h3, h4, h5, h6⟩ := h
  obtain ⟨l1, l2⟩ := runStep_last rs v
  refine ⟨by omega, h2, h3, by omega, fun e => ?_, h6⟩
  rw [l2] at e
  by_cases q : lastR rs = some v
  · rw [l1, h5 (by rw [if_pos q] at e; exact e), q]
  · rw [if_neg q] at e
    omega
theorem co_keep {rs : List (Int × Int)} {i : Nat} {x : St3} {v : Int} (h : CoOk rs i x) : CoOk (runStep rs v) (i + 1) (x.1 + 1, x.2.1 + (if x.2.2 = some v then 0 else 1), some v) := by
  obtain ⟨h1, h2, h3, h4, h5, h6⟩ := h
  obtain ⟨l1, l2⟩ := runStep_last rs v
  refine ⟨by simp only; omega, ?_, fun _ => ?_, ?_, fun e => l1.symm, fun e => absurd e (by simp)⟩
  · simp only
    split <;> omega
  · simp only
    by_cases q : 1 ≤ x.1
    · have := h3 q
      omega
    · have hx0 : x.1 = 0 := by omega
      rw [h6 hx0]
      simp
  · simp only
    rw [l2]
    by_cases q : x.2.1 = rs.length
    · rw [h5 q]
      split
      · omega
      · omega
    · split <;> split <;> omega
theorem preT_mk {a : Ad} {H : Hp} {E : XK} {v : V} {R : List (List Int)} {wd pi mi : Nat} {ok : Prop} (t : Tb a.CT H v R) (S : Shp R wd) (h1 : pi < wd) (h2 : 1 ≤ mi) (h3 : mi ≤ R.length) (q : ok) : PreT a H E v (.int (pi : Nat)) (.int (mi : Nat)) ok := by
  have hT := t.isT
  have o1 : isNum (.int (pi : Nat)) 0 ((wd : Nat) - 1) = true := by rw [isNum_int, Bool.and_eq_true, decide_eq_true_eq, decide_eq_true_eq]; omega
  have o2 : isNum (.int (mi : Nat)) 1 (R.length : Nat) = true := by rw [isNum_int, Bool.and_eq_true, decide_eq_true_eq, decide_eq_true_eq]; omega
  exact ⟨t.tg, .int _, .int _, fun h => absurd (hT.symm.trans h) (by decide), fun _ => ⟨R, wd, t, S, fun h => absurd (o1.symm.trans h) (by decide), fun _ h => absurd (o2.symm.trans h) (by decide), fun _ _ => q⟩⟩
theorem tb_inj {CT : Addr} {H : Hp} {v : V} {R R' : List (List Int)} (t : Tb CT H v R) (t' : Tb CT H v R') : R = R' := by
  obtain ⟨a, dx, r, ts, rfl, h1, h2, h3⟩ := t
  obtain ⟨a', dx', r', ts', e, h1', h2', h3'⟩ := t'
  cases e
  rw [h1] at h1'
  cases h1'
  rw [h2] at h2'
  have e2 : ts = ts' := by
    have := Option.some.inj h2'
    have e3 : ts.map V.ref = ts'.map V.ref := HO.tup.inj this
    exact List.map_inj_right (fun a b h => V.ref.inj h) |>.mp e3
  subst e2
  clear h2 h2' h1
  induction h3 generalizing R' with
  | nil => cases h3'; rfl
  | cons r1 _ ih =>
    cases h3' with
    | cons r2 t2 =>
      have e4 : _ = _ := Option.some.inj (r1.symm.trans r2)
      have e5 := HO.tup.inj e4
      have e6 := List.map_inj_right (fun a b h => V.int.inj h) |>.mp e5
      rw [e6, ih t2]
abbrev N_count_thinned : List Str := ["table", "place", "many", "found", "value", "late", "state", "ways", "left", "last", "runs", "more", "rows"]
theorem ok_count_thinned (D : Def K mg "count_thinned" 69) (T : Txt K mg a) (M : TabM P w K mg base a.CT) (c_check_thin : CalX P w K mg base 4 "check_thin" (spTh a)) (c_column : MetX P w K mg base 4 a.CT "column" (spCol a.CT))
    (c_most_thinned : CalX P w K mg base 5 "most_thinned" (spMost a)) : CalX P w K mg base 6 "count_thinned" (spT a) := by
  refine calx (N := N_count_thinned) (ps := ["table", "place", "many"]) D (by decide +kernel) (fun vs H Q E h => ?_) (fun _ _ _ _ _ _ us hl => match us, hl with | [_, _, _], _ => rfl) (fun f cdv A outer s H vs Q E hr nd tk pn h => ⟨_, (pss_cons (ps_expr (pe_cx c_check_thin hr (by decide) tk (pa_cons (pv 0) (pa_cons (pv 1) (pa_cons (pv 2) pa_nil)))))
      (pss_cons (ps_set (i := 3) nd rfl (Or.inl rfl) (pe_dispN (P := P) (w := w) rfl rfl hr.units (pe_tup (pa_cons pe_int (pa_cons pe_non (pa_cons pe_int pa_nil)))) pe_int))
      (pss_cons (ps_for pn rfl (pi_sq (pe_col c_column T.k.cl hr (by decide) (pv 0) (pa_cons (pv 1) pa_nil))) (pg_name (i := 4) nd rfl (Or.inl rfl))
      (pss_cons (ps_set (i := 5) nd rfl (Or.inl rfl) (pe_dnewN (P := P) (w := w)))
      (pss_cons (ps_for pn rfl (piIN (P := P) (w := w) rfl rfl (pv 3)) (pg_tupK (K := K) (n := 2) rfl rfl (pgs_cons (pg_name (i := 6) nd rfl (Or.inl rfl)) (pgs_cons (pg_name (i := 7) nd rfl (Or.inl rfl)) pgs_nil)))
      (pss_cons (ps_asg (pv 6) (pg_tupK (K := K) (n := 3) rfl rfl (pgs_cons (pg_name (i := 8) nd rfl (Or.inl rfl)) (pgs_cons (pg_name (i := 9) nd rfl (Or.inl rfl)) (pgs_cons (pg_name (i := 10) nd rfl (Or.inl rfl)) pgs_nil)))))
      (pss_cons (ps_asg (pe_op op_add (pe_getN (P := P) (w := w) rfl rfl hr.units (pv 5) (pv 6) pe_int ⟨rfl, rfl, rfl, rfl⟩) (pv 7)) (pg_sub (pv 5) (pv 6) (setN (P := P) (w := w) rfl rfl hr.units)))
      (pss_cons (ps_set (i := 11) nd rfl (Or.inl rfl) (pe_tup (pa_cons (pe_op op_add (pv 8) pe_int) (pa_cons (pv 4) (pa_cons (pe_op op_add (pv 10) (pe_callTy crB_int (by rfl) T.int bi_int (pa_cons (pe_cmpR op_ne (pv 4) (pv 9) (nomark _)) pa_nil))) pa_nil)))))
      (pss_one (ps_asg (pe_op op_add (pe_getN (P := P) (w := w) rfl rfl hr.units (pv 5) (pv 11) pe_int ⟨rfl, rfl, rfl, rfl⟩) (pv 7)) (pg_sub (pv 5) (pv 11) (setN (P := P) (w := w) rfl rfl hr.units))))))))
      (pss_one (ps_set (i := 3) nd rfl (Or.inl rfl) (pv 5))))))
      (pss_cons (ps_set (i := 12) nd rfl (Or.inl rfl) (pe_op op_rep (pe_lst (pa_cons pe_int pa_nil)) (pe_cx c_most_thinned hr (by decide) tk (pa_cons (pv 0) (pa_cons (pv 1) (pa_cons (pv 2) pa_nil))))))
      (pss_cons (ps_for pn rfl (piIN (P := P) (w := w) rfl rfl (pv 3)) (pg_tupK (K := K) (n := 2) rfl rfl (pgs_cons (pg_name (i := 6) nd rfl (Or.inl rfl)) (pgs_cons (pg_name (i := 7) nd rfl (Or.inl rfl)) pgs_nil)))
      (pss_one (ps_if (pt_cmpR op_eq (pe_ix (ixK (K := K) rfl) (pv 6) pe_int (fun _ _ => rfl)) (pv 2) (nomark _))
      (pss_one (ps_augS (pv 12) (pe_op op_sub (pe_ix (ixK (K := K) rfl) (pv 6) pe_int (fun _ _ => rfl)) pe_int) getL (pv 7) ip_add set_list))
      pss_nil)))
      (pss_one (ps_ret (pv 12)))))))), ?_⟩)
  · obtain ⟨_, _, _, rfl, _⟩ := h
    rfl
  · obtain ⟨v, p, m, rfl, pt⟩ := h
    clear tk pn nd hr
    walk_at "st"
    walk_at "r0"
    refine preT_ct pt fun R wd pi mi t S hp hm h1 h2 h3 q => ?_
    subst hp hm
    walk_at "st"
    walk_at "r0"
    have Sle := S.le
    intro d0 H0 hd0 e0 ne0 dd0
    refine ⟨by decide, fun pb hpb => ?_⟩
    have e1 := same_up (o := .tup [.int 0, .non, .int 0]) (Same.refl H0) hpb
    refine ⟨_, keyC (left := 0) (runs := 0) (last := none) upd_same rfl rfl, dd0.same e1, fun H1 ne1 dd1 => ?_⟩
    have x01 : SameX d0 H0 H1 := ((SameX.refl _ _).same e1).trans (SameX.of ne1)
    have e01 : Same H H1 := SameX.out e0 x01 hd0
    walk_at "st"
    walk_at "lp"
    walk_at "r0"
    have t1 := t.same e01
    refine ⟨⟨R, t1⟩, R, wd, pi, rfl, t1, S, h1, fun H2 L e2 _ hL => ⟨true, _, sqA_l hL, ?_⟩⟩
    have e02 := e01.trans e2
    have dd2 := dd1.same e2
    have hcl := col_len R pi
    refine forB (fun i σ H' => Same H H' ∧ (∀ b o, H2 b = some o → H' b = some o) ∧ ∃ d v4 v5 v6 v7 v8 v9 v10 v11 G, σ = [some v, some (.int (pi : Nat)), some (.int (mi : Nat)), some (.ref d), v4, v5, v6, v7, v8, v9, v10, v11, none] ∧ DN P w H' d (kvG kC G) ∧ G.length ≤ 2 ^ i ∧ ∀ g ∈ G, CoOk (runsOf ((col R pi).take i)) i g.1)
      ⟨e02, fun b o h => h, d0, none, none, none, none, none, none, none, none, [((0, 0, none), 1)], rfl, dd2, Nat.le_refl _, fun g hg => ?_⟩ (fun i σ H' _ h => sqA_l (h.2.1 _ _ hL)) ?_ ?_
    · rw [List.mem_singleton.mp hg]
      exact ⟨Nat.le_refl _, Nat.le_refl _, fun h => absurd h (by decide), Nat.zero_le _, fun _ => rfl, fun _ => rfl⟩
    · rintro i x σ H3 H4 Nx hi ⟨e3, k3', d, v4, v5, v6, v7, v8, v9, v10, v11, G, rfl, dG, lG, okG⟩ y nx
      simp only [yV] at y
      obtain ⟨rfl, rfl⟩ := y
      rw [List.length_map, hcl] at hi
      rw [getI (by rw [hcl]; exact hi)]
      have hrs := runsOf_succ (xs := col R pi) (i := i) (by rw [hcl]; exact hi)
      rw [hrs] at nx
      generalize (col R pi).getD i 0 = z at nx ⊢
      generalize runsOf ((col R pi).take i) = rs at okG nx
      walk_at "st"
      walk_at "r0"
      intro d' H5 hd' e5 ne5 dd5
      have nd : d ≠ d' := dG.ne_none hd'
      have dG5 := dG.same e5
      obtain ⟨ob, es, dk5, hes⟩ := dG5
      have pow : 2 ^ i ≤ 2 ^ 10 := Nat.pow_le_pow_right (by decide) (by omega)
      have hd'0 : H d' = none := e3.free hd'
      have hd'2 : H2 d' = none := by
        cases hq : H2 d' with
        | none => rfl
        | some o => have := k3' _ _ hq; rw [hd'] at this; exact nomatch this
      have hesl : es.length = G.length := by
        have := congrArg List.length hes
        unfold kvO kvG at this
        rw [List.length_map, List.length_map] at this
        exact this
      walk_at "st"
      walk_at "lp"
      walk_at "r0"
      refine ⟨ob, es, dk5, ?_⟩
      refine forB (fun t σ H' => SameX d' H5 H' ∧ ∃ v6 v7 v8 v9 v10 v11 G', σ = [some v, some (.int (pi : Nat)), some (.int (mi : Nat)), some (.ref d), some (.int z), some (.ref d'), v6, v7, v8, v9, v10, v11, none] ∧ DN P w H' d' (kvG kC G') ∧ G'.length ≤ 2 * t ∧ ∀ g ∈ G', CoOk (runStep rs z) (i + 1) g.1)
        ⟨SameX.refl _ _, v6, v7, v8, v9, v10, v11, [], rfl, dd5, Nat.zero_le _, fun _ h => nomatch h⟩ (fun t σ H' _ h => dk5.kx nd dd5.nt h.1) ?_ ?_
      · rintro t x σ H6 H7 Nx2 ht ⟨x6, v6, v7, v8, v9, v10, v11, G', rfl, dG6, lG', okG'⟩ y nx2
        simp only [yT] at y
        obtain ⟨T0, rfl, hT0, rfl⟩ := y
        refine un2 upd_same ?_
        have dk6 := dk5.kx nd dd5.nt x6
        obtain ⟨kk, vv, g1, g2, g3, g4⟩ := kvO_at hes ht
        obtain ⟨g, hg, rfl, rfl⟩ := kvG_at g1
        have ky := dk6.2.2.2.2.2.1 _ g4
        rw [g2] at ky
        rw [g3]
        generalize (es.getD t (.none, 0, .non)).2.1 = b at ky ⊢
        obtain ⟨⟨left, runs, last⟩, ways⟩ := g
        have okg : CoOk rs i (left, runs, last) := okG _ hg
        replace ky : KeyAt H6 b (kC (left, runs, last)) := ky
        have e7 := same_up (o := .tup [.ref b, .int ways]) (Same.refl H6) hT0
        have ky7 := ky.same e7
        have dG7 := dG6.same e7
        have x7 := x6.same e7
        generalize upd H6 T0 (.tup [.ref b, .int ways]) = H7 at e7 ky7 dG7 x7 ⊢
        obtain ⟨vx, vy, vz, hb, nx1, ny1, nz1⟩ := keyT3_inv ky7
        obtain rfl := nk_int nx1
        obtain rfl := nk_oinv ny1
        obtain rfl := nk_int nz1
        walk_at "st"
        walk_at "r0"
        refine un3s hb ?_
        walk_at "st"
        walk_at "r0"
        obtain ⟨y1, hy1⟩ := kvG_getD (f := kC) (F := G') (k := kC (left, runs, last)) (z := 0)
        refine ⟨⟨_, dG7⟩, b, _, _, _, ⟨rfl, rfl⟩, ky7, dG7, _, hy1, _, ky7, _, dG7, by unfold kvG; rw [List.length_map]; omega, fun H8 ne8 dd8 => ?_⟩
        rw [kvG_put kC_inj] at dd8
        have x8 := x7.trans (SameX.of ne8)
        have l8 := setG_len G' (left, runs, last) (y1 + ways)
        have hb8 : H8 b = some (.tup [.int (left : Nat), oV last, .int (runs : Nat)]) := by
          rw [ne8 b (fun z => dG7.nt _ (z ▸ hb))]
          exact hb
        walk_at "st"
        walk_at "r0"
        refine ⟨by cases last <;> rfl, _, rfl, by decide, fun p2 hp2 => ?_⟩
        have hint : ((runs : Int) + if (!decide (V.int z = oV last)) = true then 1 else 0) = ((runs + (if last = some z then 0 else 1) : Nat) : Int) := by
          cases last with
          | none => simp [oV]
          | some l =>
            by_cases hl : l = z
            · subst hl; simp [oV]
            · have : ¬ z = l := fun e => hl e.symm
              simp [oV, hl, this]
        rw [hint]
        have e9 := same_up (o := .tup [.int ((left : Int) + 1), .int z, .int ((runs + (if last = some z then 0 else 1) : Nat) : Int)]) (Same.refl H8) hp2
        have ky9 : KeyAt (upd H8 p2 (.tup [.int ((left : Int) + 1), .int z, .int ((runs + (if last = some z then 0 else 1) : Nat) : Int)])) p2 (kC (left + 1, runs + (if last = some z then 0 else 1), some z)) := keyC (last := some z) upd_same (by omega) rfl
        have dd9 := dd8.same e9
        obtain ⟨y2, hy2⟩ := kvG_getD (f := kC) (F := setG G' (left, runs, last) (y1 + ways)) (k := kC (left + 1, runs + (if last = some z then 0 else 1), some z)) (z := 0)
        refine ⟨⟨_, dd9⟩, p2, _, _, _, ⟨rfl, rfl⟩, ky9, dd9, _, hy2, _, ky9, _, dd9, by unfold kvG; rw [List.length_map]; omega, fun H10 ne10 dd10 => ?_⟩
        rw [kvG_put kC_inj] at dd10
        have l10 := setG_len (setG G' (left, runs, last) (y1 + ways)) (left + 1, runs + (if last = some z then 0 else 1), some z) (y2 + ways)
        refine nx2 _ _ ⟨(x8.same e9).trans (SameX.of ne10), _, _, _, _, _, _, _, rfl, dd10, by omega, fun g hg => ?_⟩
        rcases setG_mem hg with rfl | hg
        · exact co_keep okg
        · rcases setG_mem hg with rfl | hg
          · exact co_skip okg
          · exact okG' g hg
      · rintro σ H6 ⟨x6, v6, v7, v8, v9, v10, v11, G', rfl, dG6, lG', okG'⟩
        walk_at "r0"
        refine nx _ _ ⟨SameX.out (e3.trans e5) x6 hd'0, fun b o h => x6 _ _ (e5 _ _ (k3' _ _ h)) (ne_of_none h hd'2), d', _, _, _, _, _, _, _, _, G', rfl, dG6, ?_, okG'⟩
        rw [Nat.pow_succ]
        omega
    · rintro σ H3 ⟨e3, k3', d, v4, v5, v6, v7, v8, v9, v10, v11, G, rfl, dG, lG, okG⟩
      rw [List.length_map, hcl] at okG lG
      rw [List.take_of_length_le (by rw [hcl]; exact Nat.le_refl _)] at okG
      walk_at "st"
      walk_at "r0"
      refine ⟨by decide, fun pz hpz => ?_⟩
      have e4 := same_up (o := .lst [.int 0]) (Same.refl H3) hpz
      have hz4 : upd H3 pz (.lst [.int 0]) pz = some (.lst [.int 0]) := upd_same
      generalize upd H3 pz (.lst [.int 0]) = H4 at e4 hz4 ⊢
      have t4 := t.same (e3.trans e4)
      refine ⟨_, _, _, rfl, preT_mk t4 S h1 h2 h3 fun R' pi' mi' H5 t' e1' e2' e5 => ?_⟩
      cases tb_inj t4 t'
      obtain rfl : pi = pi' := by have := V.int.inj e1'; omega
      obtain rfl : mi = mi' := by have := V.int.inj e2'; omega
      generalize runsOf (col R pi) = rs at okG ⊢
      refine ⟨_, rfl, _, e5 _ _ hz4, by omega, by omega, small' (by simp; omega), fun rw_ hrw => ?_⟩
      have e6 := same_up (o := .lst (List.replicate (((min mi rs.length : Nat) : Int)).toNat [V.int 0]).flatten) (Same.refl H5) hrw
      have hr6 : upd H5 rw_ (.lst (List.replicate (((min mi rs.length : Nat) : Int)).toNat [V.int 0]).flatten) rw_ = some (.lst ((List.replicate (min mi rs.length) (0 : Int)).map V.int)) := by
        rw [upd_same, flat_rep, List.map_replicate]
        rfl
      have hrw0 : H rw_ = none := ((e3.trans e4).trans e5).free hrw
      have hrw3 : H3 rw_ = none := (e4.trans e5).free hrw
      generalize upd H5 rw_ (.lst (List.replicate (((min mi rs.length : Nat) : Int)).toNat [V.int 0]).flatten) = H6 at e6 hr6 ⊢
      have dG6 := ((dG.same e4).same e5).same e6
      have nrd : d ≠ rw_ := dG.ne_none hrw3
      obtain ⟨ob, es, dk6, hes⟩ := dG6
      have e06 := ((e3.trans e4).trans e5).trans e6
      have hesl : es.length = G.length := by
        have := congrArg List.length hes
        unfold kvO kvG at this
        rw [List.length_map, List.length_map] at this
        exact this
      walk_at "st"
      walk_at "lp"
      walk_at "r0"
      refine ⟨ob, es, dk6, ?_⟩
      refine forB (fun t σ H' => SameX rw_ H6 H' ∧ ∃ (v6 v7 : Option V) (ns : List Int), σ = [some v, some (.int (pi : Nat)), some (.int (mi : Nat)), some (.ref d), v4, v5, v6, v7, v8, v9, v10, v11, some (.ref rw_)] ∧ H' rw_ = some (.lst (ns.map V.int)) ∧ ns.length = min mi rs.length)
        ⟨SameX.refl _ _, v6, v7, _, rfl, hr6, by simp⟩ (fun t σ H' _ h => dk6.kx nrd (lst_nt hr6) h.1) ?_ ?_
      · rintro t x σ H7 H8 Nx2 ht ⟨x7, v6, v7, ns, rfl, hr7, ln⟩ y nx2
        simp only [yT] at y
        obtain ⟨T0, rfl, hT0, rfl⟩ := y
        refine un2 upd_same ?_
        have dk7 := dk6.kx nrd (lst_nt hr6) x7
        obtain ⟨kk, vv, g1, g2, g3, g4⟩ := kvO_at hes ht
        obtain ⟨g, hg, rfl, rfl⟩ := kvG_at g1
        have ky := dk7.2.2.2.2.2.1 _ g4
        rw [g2] at ky
        rw [g3]
        generalize (es.getD t (.none, 0, .non)).2.1 = b at ky ⊢
        obtain ⟨⟨left, runs, last⟩, ways⟩ := g
        obtain ⟨c1, c2, c3, c4, _, _⟩ := okG _ hg
        simp only at c1 c2 c3 c4
        have e8 := same_up (o := .tup [.ref b, .int ways]) (Same.refl H7) hT0
        have ky8 := ky.same e8
        have x8 := x7.same e8
        have hr8 := e8 _ _ hr7
        generalize upd H7 T0 (.tup [.ref b, .int ways]) = H8 at e8 ky8 x8 hr8 ⊢
        obtain ⟨vx, vy, vz, hb, nx1, ny1, nz1⟩ := keyT3_inv ky8
        obtain rfl := nk_int nx1
        obtain rfl := nk_int nz1
        walk_at "r0"
        refine ix_t hb (atI_nat (k := 0) rfl) ⟨rfl, _, rfl, ?_⟩
        rw [dec_int]
        by_cases hlm : left = mi
        · subst hlm
          rw [if_pos (by simp)]
          have hr1 := c3 h2
          refine ix_t hb (atI_nat (k := 2) rfl) ⟨_, rfl, ?_⟩
          have hidx : runs - 1 < ns.length := by rw [ln]; omega
          simp only
          have hat : (ns.map V.int)[runs - 1]? = some (.int (ns.getD (runs - 1) 0)) := by
            rw [List.getElem?_map, List.getD_eq_getElem?_getD, List.getElem?_eq_getElem hidx]; rfl
          refine ⟨_, runs - 1, by omega, hr8, _, hat, _, rfl, _, hr8, runs - 1, ?_, nx2 _ _ ⟨x8.upd, _, _, ns.set (runs - 1) (ns.getD (runs - 1) 0 + ways), rfl, by rw [upd_same, List.map_set], by rw [List.length_set]; exact ln⟩⟩
          rw [show ((runs : Int) - 1) = ((runs - 1 : Nat) : Int) by omega]
          exact ixN_nat (by rw [List.length_map]; exact hidx)
        · rw [if_neg (by simp; omega)]
          exact nx2 _ _ ⟨x8, _, _, ns, rfl, hr8, ln⟩
      · rintro σ H7 ⟨x7, v6, v7, ns, rfl, hr7, ln⟩
        walk_at "r0"
        exact q _ _ fun b o h => x7 _ _ (e06 _ _ h) (ne_of_none h hrw0)
end
end G


set_option Elab.async false
set_option linter.all false
set_option maxRecDepth 100000
set_option maxHeartbeats 4000000
set_option pp.deepTerms true
set_option pp.maxSteps 100000
set_option format.width 230
namespace G
open PySem PySem.Spec PyProof.Rows L2
local macro_rules | `(tactic| walk_at "rd") => `(tactic| try simp only [cxOf_K, tSeq, tIfS, tTest, tB, tCB, tCons, tNil, tC, tVar, tOp, tUn, tAndV, tOrV, tNotV, tAnd, tOr, tNot, tIf, tChain, tRet, tRetN, tAsg, gName, tDrop, tNext, tCallS, WE, rI0, rI, rU, L2.start, tYes, tLc, tFor, gTup, gCons, gNil, tPar, tPar3, tAug, ipI, tWidth, tCall, tMeth, tMake, tFld, tRows, tTable, sFld, rMulT, rSumT, gSub, tBM, rAppend, rSetL, rExtend, rSlL, rSlQ, tCol, Int.toNat_natCast,  tSl, tNoPart, tPart, tTup, tLst, tNever, itu_g, sDPut, tDNewK, tDNewN, tDispN, rSetN, rIxN, rInN, tGetN, rGetN, iKN, iIN, iRg3, iRng3, rGetL, tAugS, tNo, rCopyN, rRep,
  List.map_cons, List.map_nil, List.length_cons, List.length_nil, List.cons_append, List.nil_append, List.replicate, Nat.reduceAdd, Nat.reduceSub, Nat.zero_add, Nat.sub_self,
  List.getElem?_cons_zero, List.getElem?_cons_succ, List.set_cons_zero, List.set_cons_succ, wipe, Option.some.injEq, exists_eq_left', exists_eq_left, V.bl.injEq, V.int.injEq, ref_inj, ty_inj, if_true, if_false, Bool.false_eq_true, Bool.true_eq_false, exists_const, exists_and_left, true_and, and_true, List.cons.injEq,
  isB_int, isB_bool, isB_tuple, isB_list, isT_at, iSq, iRg1, iRg2, iZ2, iZ3, iEn])
local macro_rules | `(tactic| walk_at "r1") => `(tactic| try simp only [cxOf_K, tSeq, tIfS, tTest, tB, tCB, tCons, tNil, tC, tVar, tOp, tUn, tAndV, tOrV, tNotV, tAnd, tOr, tNot, tIf, tChain, tRet, tRetN, tAsg, gName, tDrop, tNext, tCallS, WE, rI0, rI, rU, L2.start, tYes, gTup, gCons, gNil, tPar, tPar3, tAug, ipI, tWidth, tCall, tMeth, tMake, tFld, tRows, tTable, sFld, rMulT, rSumT, gSub, tBM, rAppend, rSetL, rExtend, rSlL, rSlQ, tCol, Int.toNat_natCast,  tSl, tNoPart, tPart, tTup, tLst, tNever, itu_g, sDPut, tDNewK, tDNewN, tDispN, rSetN, rIxN, rInN, tGetN, rGetN, iKN, iIN, iRg3, iRng3, rGetL, tAugS, tNo, rCopyN, rRep,
  List.map_cons, List.map_nil, List.length_cons, List.length_nil, List.cons_append, List.nil_append, List.replicate, Nat.reduceAdd, Nat.reduceSub, Nat.zero_add, Nat.sub_self,
  List.getElem?_cons_zero, List.getElem?_cons_succ, List.set_cons_zero, List.set_cons_succ, wipe, Option.some.injEq, exists_eq_left', exists_eq_left, V.bl.injEq, V.int.injEq, ref_inj, ty_inj, if_true, if_false, Bool.false_eq_true, Bool.true_eq_false, exists_const, exists_and_left, true_and, and_true, List.cons.injEq,
  isB_int, isB_bool, isB_tuple, isB_list, isT_at, iSq, iRg1, iRg2, iZ2, iZ3, iEn])
local macro_rules | `(tactic| walk_at "r0") => `(tactic| try simp only [cxOf_K, tIfS, tTest, tB, tCB, tCons, tNil, tC, tVar, tOp, tUn, tAndV, tOrV, tNotV, tAnd, tOr, tNot, tIf, tChain, tRet, tRetN, tAsg, gName, tDrop, tNext, tCallS, WE, rI0, rI, rU, L2.start, tYes, gTup, gCons, gNil, tPar, tPar3, tAug, ipI, tWidth, tCall, tMeth, tMake, tFld, tRows, tTable, sFld, rMulT, rSumT, gSub, tBM, rAppend, rSetL, rExtend, rSlL, rSlQ, tCol, Int.toNat_natCast,  tSl, tNoPart, tPart, tTup, tLst, tNever, itu_g, sDPut, tDNewK, tDNewN, tDispN, rSetN, rIxN, rInN, tGetN, rGetN, iKN, iIN, iRg3, iRng3, rGetL, tAugS, tNo, rCopyN, rRep,
  List.map_cons, List.map_nil, List.length_cons, List.length_nil, List.cons_append, List.nil_append, List.replicate, Nat.reduceAdd, Nat.reduceSub, Nat.zero_add, Nat.sub_self,
  List.getElem?_cons_zero, List.getElem?_cons_succ, List.set_cons_zero, List.set_cons_succ, wipe, Option.some.injEq, exists_eq_left', exists_eq_left, V.bl.injEq, V.int.injEq, ref_inj, ty_inj, if_true, if_false, Bool.false_eq_true, Bool.true_eq_false, exists_const, exists_and_left, true_and, and_true, List.cons.injEq,
  isB_int, isB_bool, isB_tuple, isB_list, isT_at, iSq, iRg1, iRg2, iZ2, iZ3, iEn])
local macro_rules | `(tactic| walk_at "st") => `(tactic| ((try dsimp only); rw [tSeq_def]))
local macro_rules | `(tactic| walk_at "lp") => `(tactic| first | rw [tFor_def] | rw [tLc_def] | rw [tWhile_def])
local macro_rules | `(tactic| walk_at "ex") => `(tactic| simp only [List.cons.injEq, and_true, true_and, and_assoc, exists_and_left, exists_eq_left', exists_eq_left, exists_eq_right, exists_const, V.int.injEq, V.bl.injEq, ref_inj, Bool.not_true, Bool.not_false, Bool.false_eq_true, if_true, if_false, Bool.true_eq_false])
section
variable {P : Program} {w : World} {K : PySem.W.Frag} {mg : Str → Option Value} {base : Heap} {a : Ad}
/-- o.m(..), which may raise -/
def tMethS (C : Addr) (m : Str) (sp : Sp) (E : L2.St → XK) (ta : TE) (t : TA) : TE := fun σ H Q => ta σ H fun x H1 => ∃ a dx fs, x = .ref a ∧ H1 a = some (.ins C dx fs) ∧ fs.lookup m = none ∧ t σ H1 fun vs H2 => sp (x :: vs) H2 Q (E σ)
theorem pe_mxS {X : Cx} {k j : Nat} {C : Addr} {m : Str} {sp : Sp} {W : WX} {apos pos : Pos} {o e : Expr} {es : List Expr} {ta : TE} {t : TA} {pl : Sem Bool} (c : MetX X.prog X.w X.K X.mg X.base k C m sp) (cl : Cls X.K C) (hr : Room j X.A) (hk : k ≤ j) (tk : Takes X W) (he : PE X o ta) (ha : PA X (e :: es) t)
    (hst : starEach (e :: es) X.env = (false, eval e X.env) :: starEach es X.env := by rfl) (hpl : (backTo pos (starEach es X.env)).any (·.1) = false := by rfl)
    (ht : eval (.Call (.Attribute o m apos) (e :: es) [] pos) X.env = (do
      let ov ← eval o X.env
      standAt apos.atName
      let (f, first) ← holding [ov] (getMethod ov m pl)
      callWith pos f first (backTo pos (starEach (e :: es) X.env)) (backToKw pos (keywordEach [] X.env))) := by rfl) :
    PE X (.Call (.Attribute o m apos) (e :: es) [] pos) (tMethS C m sp (WE W) ta t) := by
  obtain ⟨f, fd, ps, hm, F, b⟩ := c.ex
  refine ⟨fun pins s σ H Q I h => ?_⟩
  refine PySem.W.methodCall_KW (pl := pl) (thn (he.run pins s σ H _ I h) fun u s1 ⟨x, H1, I1, rx, a, dx, fs, ex, ea, l, q⟩ => ?_) ht
  subst ex
  obtain rfl : u = Value.ref a := rx
  refine getmeth_ok I1 ea cl hm l ?_
  refine PySem.W.callWith_K (first := [.ref a]) (h₀ := X.base) I.ok.mod.kin hm.kp (thn (ha.run pos pins s1 σ H1 _ I1 q) fun us s2 ⟨vs, H2, I2, r, q2⟩ => ⟨I2.kIn, ?_⟩) hst hpl
  exact run_fnS (us := .ref a :: us) (vs := .ref a :: vs) F (hr.mono hk) b (passAt tk σ) I2 (.cons rfl r) q2
/-- Thinned((), ..).shows(table, place, many) -/
def spSh (a : Ad) (K : PySem.W.Frag) : Sp := fun vs H Q E => ∃ x v p m, vs = [x, v, p, m] ∧ ThAt a.CTh H x [] ∧ PreT a H E v p m (∀ H', Same H H' → Q (.bl false) H')
abbrev N_Thinned_shows : List Str := ["self", "table", "place", "many", "values", "state", "one", "other", "index"]
theorem ok_th_shows (D : DefM K a.CTh "shows" "Thinned.shows" 65 2) (T : Txt K mg a) (M : TabM P w K mg base a.CT) (Tt : TxTh K a.CTh) (c_check_thin : CalX P w K mg base 4 "check_thin" (spTh a)) (c_column : MetX P w K mg base 4 a.CT "column" (spCol a.CT)) (c_is_number : CalX P w K mg base 1 "is_number" (spNum a.CT)) : MetX P w K mg base 5 a.CTh "shows" (spSh a K) := by
  obtain ⟨f, fd, F, m⟩ := D.ex
  refine ⟨f, fd, ["self", "table", "place", "many"], m, ?_, F.binds fun _ _ _ _ _ _ us hl => match us, hl with | [_, _, _, _], _ => rfl⟩
  refine fnx (N := N_Thinned_shows) F (by decide +kernel) (fun vs H Q E h => ?_) (fun cdv A outer s H vs Q E hr nd tk pn h => ⟨_, (pss_cons (ps_expr (pe_cx c_check_thin hr (by decide) tk (pa_cons (pv 1) (pa_cons (pv 2) (pa_cons (pv 3) pa_nil)))))
      (pss_cons (ps_set (i := 4) nd rfl (Or.inr rfl) (pe_col c_column T.k.cl hr (by decide) (pv 1) (pa_cons (pv 2) pa_nil)))
      (pss_cons (ps_if (PW.pt (pw_or (pt_not (pt_val (pe_callB (crK_all (K := K) rfl rfl) (by rfl) T.all bi_all (pa_cons (pe_lc (own := [("index", 8)]) rfl nd (pi_sq (pe_fld (pv 0) rfl)) (blkOk_by (own := [("index", 8)]) (N := N_Thinned_shows) (sc := defScope (inClass (top 65) 2)) (by decide +kernel)) (fun _ _ _ _ _ => (pg_name (i := 8) nd rfl (Or.inl rfl))) (fun _ _ _ _ _ => pts_nil) (fun _ _ _ _ _ => (pe_cx c_is_number hr (by decide) tk0 (pa_cons (pv 8) (pa_cons pe_int (pa_cons (pe_op op_sub (pe_callB (call_lenK (K := K) rfl M hr (by decide)) (by rfl) T.len bi_len (pa_cons (pv 1) pa_nil)) pe_int) pa_nil)))))) pa_nil)))) (pw_or1 (pt_cmpR op_ne (pe_callB (call_lenK (K := K) rfl M hr (by decide)) (by rfl) T.len bi_len (pa_cons (pe_fld (pv 0) rfl) pa_nil)) (pv 3) (nomark _)))))
      (pss_one (ps_ret pe_bl))
      pss_nil)
      (pss_cons ps_never
      (pss_cons ps_never
      (pss_one ps_never)))))), ?_⟩)
  · obtain ⟨_, _, _, _, rfl, _⟩ := h
    rfl
  · obtain ⟨x, v, p, mm, rfl, ⟨xa, dx, kt, fl, rfl, hx, hkt⟩, pt⟩ := h
    clear tk pn nd hr
    walk_at "st"
    walk_at "r0"
    refine preT_ct pt fun R wd pi mi t S hp hm h1 h2 h3 q => ?_
    subst hp hm
    walk_at "st"
    walk_at "r0"
    refine ⟨⟨R, t⟩, R, wd, pi, rfl, t, S, h1, fun H1 L e1 _ hL => ?_⟩
    walk_at "st"
    walk_at "r0"
    walk_at "lp"
    walk_at "r0"
    have hx1 := e1 _ _ hx
    have hk1 := e1 _ _ hkt
    have kk : ¬ (("kept" : Str) = "floors") := by decide +kernel
    refine ⟨a.CTh, dx, _, hx1, Tt.cl, Tt.nK, .ref kt, rfl, kt, rfl, false, [], sqA_t hk1, fun L2 hL2 => ?_⟩
    refine lcA (fun _ => .bl true) hL2 (Nat.zero_le _) (fun H' e => sqA_t (e _ _ hk1)) (fun j v H2 H3 acc Nx hj _ _ _ _ => absurd hj (Nat.not_lt_zero _)) (fun H2 e2 h => ?_)
    refine all_l (bs := []) h ⟨_, rfl, ?_⟩
    rw [if_neg (by simp)]
    refine ⟨a.CTh, dx, _, e2 _ _ hx1, Tt.cl, Tt.nK, .ref kt, rfl, len_t (e2 _ _ hk1) ⟨rfl, _, rfl, ?_⟩⟩
    rw [if_pos (by rw [dec_int]; simp; omega)]
    exact q _ (e1.trans e2)
end
end G


set_option Elab.async false
set_option linter.all false
set_option maxRecDepth 100000
set_option maxHeartbeats 4000000
/-! An own exception's __init__ that says super().__init__(text), then self.index = index. -/
namespace G
open PySem PySem.Spec PyProof.Rows L2 PySem.W
/-- what it does: (self, index) -/
def spBP (C : Addr) : Sp := fun vs H Q _ => ∃ (x : Addr) (v : V), vs = [.ref x, v] ∧ H x = some (exo x C none) ∧ ∀ dx, H dx = none → dx ≠ x → Q .non (upd (upd H dx (exd dx [("index", v)])) x (exo x C (some dx)))
/-- what the written part says of it -/
structure SupK (P : Program) (K : PySem.W.Frag) (C f cc cda : Addr) (qual : Str) : Prop where
  oex : OexC K C
  co : ∃ ccl cdd vs ccs file tf, K.lookup cda = some ⟨ccl, cdd, .fields vs, ccs⟩ ∧ vs[2]? = some (.str file tf) ∧ ((P.main.file : Str) == file) = true
  cc : ∃ cl cld csl, K.lookup cc = some ⟨cl, cld, .cell (some (.ref C)), csl⟩
  cd : ∃ cdD, clsIn K C = some cdD
  sub : mroIn K C (.ref C) = some true
  sup : nsIn K mainGlobals "super" = some none
  top : (P.main.scope.names.lookup ("super" : Str)).isSome = false
  has : ks_superIn K C C "__init__" = some (some (.builtin "ValueError.__init__"))
  ve : subIn K (.ref C) (.type "ValueError") = some true
  tp : nsIn K cStatics "thirdparty.any" = some none
  noI : PySem.W.findIn K (.ref C) "index" = some none
  code : PySem.W.codeIn K (.ref cda) qual = true
section
variable {P : Program} {w : World} {K : PySem.W.Frag} {mg : Str → Option Value} {base : Heap}
theorem look1 (f g : Str) (c : Addr) : ([(f, c)] : List (Str × Addr)).lookup g = if g = f then some c else none := by
  by_cases h : g = f
  · subst h
    simp [List.lookup]
  · have e : (g == f) = false := by simpa using h
    rw [if_neg h]
    simp [List.lookup, e]
/-- the context of its body -/
def cxB (P : Program) (w : World) (K : PySem.W.Frag) (mg : Str → Option Value) (base : Heap) (qual : Str) (scope : Scope) (f cc cda : Addr) (A : Around) (outer : List Env) (s : Shared) (H : Hp) (E : XK) : Cx where
  prog := P
  w := w
  K := K
  mg := mg
  base := base
  A := A.deeper (ksEnv qual scope s.heap.objs.size f (.ref cda) cc)
  N := ["self", "index"]
  s_0 := s
  H_0 := H
  env := ksEnv qual scope s.heap.objs.size f (.ref cda) cc
  outer := outer
  stack := ksEnv qual scope s.heap.objs.size f (.ref cda) cc :: outer
  ex := []
  calm := true
  fn := fun _ => false
  pn := []
  xe := fun e s' => wpAny (model P w) (A.deeper (ksEnv qual scope s.heap.objs.size f (.ref cda) cc)) (leaving (ksEnv qual scope s.heap.objs.size f (.ref cda) cc) e) (fun _ s'' => L2.CX P w outer H s E e s'') (fun e' s'' => L2.CX P w outer H s E e' s'') s'
theorem bp_init {k : Nat} {C f cc cda : Addr} {qual msg : Str} {params : Arguments} {scope : Scope} {dV kV doc pm ct oc : Value} {an od : Option Addr} {osl : Array (Option Value)} {ar : Arg} {p0 p1 p2 p3 p4 p5 q1 q2 q3 q4 : Pos} {j : Nat}
    (T : SupK P K C f cc cda qual) (hsu : mg "super" = none)
    (lk : K.lookup f = some ⟨oc, od, .func (ksFn "__init__" qual params [.Expr (.Call (.Attribute (.Call (.Name "super" p0) [] [] p1) "__init__" p2) [.Constant (.str msg) j p3] [] p4) p5, .Assign [.Attribute (.Name "self" q1) "index" q2] (.Name "index" q3) q4] scope dV kV doc pm an (.ref cda) ct cc), osl⟩)
    {pl : Sem Bool} (he : ∀ env, eval (.Call (.Attribute (.Call (.Name "super" p0) [] [] p1) "__init__" p2) [.Constant (.str msg) j p3] [] p4) env = (do
      let ov ← attributeBase (.Call (.Name "super" p0) [] [] p1) "__init__" env (eval (.Call (.Name "super" p0) [] [] p1) env)
      standAt p2.atName
      let (f, first) ← holding [ov] (getMethod ov "__init__" pl)
      callWith p4 f first (backTo p4 (starEach [.Constant (.str msg) j p3] env)) []))
    (hp : (params.posonlyargs ++ params.args).head? = some ar) (har : ar.arg = "self")
    (k1 : scope.kind = .function) (k2 : scope.isCoroutine = false) (k3 : scope.isGenerator = false) (k4 : ∀ x ∈ scope.names, x.2 ≠ .cell)
    (n1 : scope.names.lookup ("self" : Str) = some .local) (n2 : scope.names.lookup ("index" : Str) = some .local) (n3 : scope.names.lookup ("super" : Str) = some .globalImplicit) (n4 : scope.names.lookup ("__class__" : Str) = some .free)
    (n5 : ∀ x ∈ scope.names, x.2 = .free → x.1 = "__class__") :
    FnOk P w K mg base (L2.CX P w) (k + 1) f (ksFn "__init__" qual params [.Expr (.Call (.Attribute (.Call (.Name "super" p0) [] [] p1) "__init__" p2) [.Constant (.str msg) j p3] [] p4) p5, .Assign [.Attribute (.Name "self" q1) "index" q2] (.Name "index" q3) q4] scope dV kV doc pm an (.ref cda) ct cc) ["self", "index"] (spBP C) := by
  refine ⟨fun vs H Q E h => ?_, fun A outer s H args us vs Q E hr e0 hb r hsp => ?_⟩
  · obtain ⟨x, v, rfl, _⟩ := h
    rfl
  obtain ⟨x, v, rfl, ex, hq⟩ := hsp
  have e0b := e0.bs
  have KX : K.In s.heap := e0.mod.kin.keeps fun b o e => (e0.bs b o e).1
  have lim : s.heap.NoLimit := e0.mod.nolimit.keeps fun b o e => (e0.bs b o e).1
  obtain ⟨cl, cld, csl, hcc⟩ := T.cc
  obtain ⟨ux, uv, rfl, rx, rv⟩ : ∃ ux uv, us = [ux, uv] ∧ RelV (.ref x) ux ∧ RelV v uv := by
    cases r with
    | cons a b =>
      cases b with
      | cons c d =>
        cases d
        exact ⟨_, _, rfl, a, c⟩
  obtain rfl : ux = Value.ref x := rx
  refine ks_codeAny_call_defAt hr.depth (KX _ _ lk) rfl lim (codeRec_of KX T.code) rfl hb k4 (fun y hy => ?_) (fun h₀ hns hk => ?_) k2 k3 k1
  · rcases List.mem_cons.mp hy with rfl | hy
    · exact n1
    · rcases List.mem_cons.mp hy with rfl | hy
      · exact n2
      · cases hy
  show PySem.wpAt (model P w) (A.deeper (ksEnv qual scope s.heap.objs.size f (.ref cda) cc)) (.func _ (ksEnv qual scope s.heap.objs.size f (.ref cda) cc)) (execs _ (ksEnv qual scope s.heap.objs.size f (.ref cda) cc)) _ _ _
  have hcb : base.get? cc = some ⟨cl, cld, .cell (some (.ref C)), csl⟩ := e0.mod.kin _ _ hcc
  have look : ∀ y c, (ksEnv qual scope s.heap.objs.size f (.ref cda) cc).cells.lookup y = some c → y = "__class__" ∧ c = cc := fun y c h => by
    have h' : (([("__class__", cc)] : List (Str × Addr))).lookup y = some c := h
    rw [look1] at h'
    split at h'
    · rename_i e
      exact ⟨e, (Option.some.inj h').symm⟩
    · cases h'
  have nocell : ∀ y, scope.names.lookup y ≠ some .cell := fun y h => k4 _ (PySem.mem_of_lookup h) rfl
  let X := cxB P w K mg base qual scope f cc cda A outer s H E
  have noA : ∀ b : Addr, b ∉ X.ex := fun b z => absurd (show b ∈ ([] : List Addr) from z) (by simp)
  have I : Inv X [] [some (.ref x), some v] H { s with heap := h₀, toks := s.toks + (["self", "index"].zip [Value.ref x, uv]).length } := by
    refine ⟨⟨e0.mod, k1, rfl, rfl, Nat.le_refl _, fun y z c h1 h2 => ?_, fun y hy => ?_, fun y c h _ => (Bool.noConfusion h), fun _ => hr.hd, Around.frames_deeper e0.frames, .inr ⟨rfl, rfl⟩, fun b z => absurd z (noA b), e0.bs, e0.bsz, fun b _ _ => noA b, fun b z => absurd z (noA b), e0.funs, e0.frf⟩,
      rfl, e0.bare, Un.kept hk, ⟨_, hns, fun i y u h1 h2 h3 => ?_⟩, fun y c h => ?_, e0.hok.fresh (Nat.le_refl _), fun y c h => ?_, fun p hp => absurd (show p ∈ ([] : List (Addr × Obj)) from hp) (by simp), e0.hok.kept hk, rfl⟩
    · exact (look _ _ h1).1.trans (look _ _ h2).1.symm
    · have hy : scope.names.lookup y = some .cell ∨ scope.names.lookup y = some .free := hy
      rcases hy with hy | hy
      · exact absurd hy (nocell y)
      · obtain rfl : y = "__class__" := n5 _ (PySem.mem_of_lookup hy) rfl
        exact ⟨cc, by exact (look1 "__class__" "__class__" cc).trans (if_pos rfl)⟩
    · have h1 : (["self", "index"] : List Str)[i]? = some y := h1
      match i, h1, h2 with
      | 0, h1, h2 =>
        cases h1
        cases h2
        exact ⟨_, rfl, .inl ⟨n1, rfl⟩⟩
      | 1, h1, h2 =>
        cases h1
        cases h2
        exact ⟨_, rv, .inl ⟨n2, rfl⟩⟩
      | i + 2, h1, _ => simp at h1
    · obtain ⟨rfl, rfl⟩ := look _ _ h
      exact ⟨_, _, hk _ _ (e0.bs _ _ hcb).1, rfl⟩
    · obtain ⟨rfl, rfl⟩ := look _ _ h
      exact (e0.bs _ _ hcb).2
  obtain ⟨ccl, cdd, vs', ccs, file, tf, hcda, hv2, hfile⟩ := T.co
  obtain ⟨cdD, hcd⟩ := T.cd
  obtain ⟨nm, q, N, bs, bm, sn, sub, ab, col, dd, kk0, kk1, kk2, kk3, kk5, hC, hbm⟩ := T.oex.cls
  obtain ⟨mb, hb1, hb2⟩ := e0.mod.blt
  obtain ⟨t1, hx⟩ := exo_at I.hok ex
  obtain ⟨hh, g, d, tk, os⟩ := s
  have KI := I.kIn
  refine ks_wpAt_execs_cons (ks_wpAt_Expr_any (ks_wpAt_MethodCall (PySem.wpAt_mono (ks_wpAt_super_base (f := f) (cc := cda) (Q := fun ov s₁ => ov = .ref h₀.objs.size ∧ ∃ h', s₁ = ⟨h', g, d, tk + (["self", "index"].zip [Value.ref x, uv]).length, os⟩ ∧ h'.get? h₀.objs.size = some (ks_superObj C x C) ∧ (∀ y o, h₀.get? y = some o → h'.get? y = some o)) n3 n4 (by decide) rfl (KI _ _ lk) rfl hp rfl (KI _ _ hcda) rfl hv2 hfile T.top ?_) (fun ov s₁ z => ?_) fun _ _ z => z) (he _)) (by show (scope.kind == .module && _) = false; rw [k1]; rfl))
  · refine ks_loadName_global k1 n3 (Calls.loadGlobal_builtin (e0.mod.glob.keeps I.bk) hsu (hb1.keeps I.bk) ((hb2 _ (by decide)).trans (by decide +kernel)) ⟨rfl, ?_⟩)
    refine wpAny_loadName_free k1 n4 rfl ⟨_, KI _ _ hcc, rfl⟩ ?_
    rw [har]
    refine wpAny_loadName_local k1 n1 hns rfl ?_
    obtain ⟨oD, hD1, hD2⟩ : ∃ oD, h₀.get? C = some oD ∧ oD.data = .cls cdD := by
      have hcd' := hcd
      unfold clsIn at hcd'
      split at hcd'
      · rename_i c d cd' sl ho
        cases hcd'
        exact ⟨_, KI _ _ ho, rfl⟩
      · cases hcd'
    refine ks_wpAny_isType_cls hD1 hD2 ⟨rfl, ?_⟩
    exact ks_wpAny_call_super hD1 hD2 hx rfl (fun c e => by cases e) (looks_mroIn KI T.sub) (fun h' e k => ⟨rfl, h', rfl, e, k⟩)
  · obtain ⟨rfl, h1, rfl, hso, hk1⟩ := z
    have I1 : Inv X [] [some (.ref x), some v] H ⟨h1, g, d, tk + (["self", "index"].zip [Value.ref x, uv]).length, os⟩ := I.kept hk1
    have K1 := I1.kIn
    have hx1 := hk1 _ _ hx
    have iA : InstAt h1 x { cls := .ref C, dict := none, data := .fields #[.ref t1, .none, .none, .none, .bool false, .none] } C none := ⟨hx1, rfl, rfl, trivial⟩
    have hsi := T.has
    unfold ks_superIn at hsi
    rw [hcd] at hsi
    refine kxs_getMethod kxs_ValueError hso (looks_opaque K1 T.tp) (l₀ := cdD.mro) (fun A Q E s k q => wpAny_bind ((looks_clsIn K1 hcd) A _ E s k (wpAny_pure q))) rfl K1 hsi (iA.type.andThen (looks_subIn K1 T.ve)) (ks_ne K1 iA hcd) (by decide) ?_
    have hu : (h1.push (kxs_mw "ValueError.__init__" x)).get? h1.objs.size = some (kxs_mw "ValueError.__init__" x) := Heap.get?_push_at rfl rfl
    have I2 : Inv X [(h1.objs.size, kxs_mw "ValueError.__init__" x)] [some (.ref x), some v] H ⟨h1.push (kxs_mw "ValueError.__init__" x), g, d, tk + (["self", "index"].zip [Value.ref x, uv]).length + 1, os⟩ := by
      have J : Inv X [] [some (.ref x), some v] H ⟨h1.push (kxs_mw "ValueError.__init__" x), g, d, tk + (["self", "index"].zip [Value.ref x, uv]).length + 1, os⟩ := I1.kept fun b o e => Heap.get?_push_of_some _ e
      refine J.pins_of fun p hp => ?_
      rcases List.mem_cons.mp hp with rfl | hp
      · exact ⟨hu, I1.hok.fresh (Nat.le_refl _), fun z => absurd I1.lt (by rw [← z]; exact Nat.lt_irrefl _), I1.nofs (Nat.le_refl _), fun v e => by cases e⟩
      · cases hp
    refine kxs_callWith (i := "ValueError.__init__") (x := x) rfl (Calls.evalArgs_plain (thn ((pa_cons (X := X) pe_str pa_nil).run p4 _ _ _ H (fun vs H' => vs = [.str msg] ∧ H' = H) I2 ⟨rfl, rfl⟩) fun us s2 ⟨vs2, H2, I3, r3, ev, eH⟩ => ?_))
    subst eH ev
    obtain ⟨hu3, _⟩ := I3.pin (h1.objs.size, kxs_mw "ValueError.__init__" x) (List.mem_append_right _ (.head _))
    refine ⟨hu3, ?_⟩
    obtain ⟨t2, hx3⟩ := exo_at I3.hok ex
    have K3 := I3.kIn
    obtain ⟨h3, g3, d3, tk3, os3⟩ := s2
    refine wpAny_call (codeAny_of_tree ?_)
    show wpAny _ _ (callAny (.ref h1.objs.size) ⟨us, []⟩) _ _ _
    simp only [callAny]
    refine wpAny_bind (wpAny_load hu3 ?_)
    simp only [kxs_mw, show (Value.type "method-wrapper" == Value.type "method" || Value.type "method-wrapper" == Value.type "builtin_function_or_method" || Value.type "method-wrapper" == Value.type "method-wrapper") = true by decide, if_true]
    refine KFB.if_so (by decide) ?_
    refine wpAny_bind (check_bound_init F.excBase_ValueError.toExcCallFacts (K3 _ _ hC) hx3 rfl ?_)
    refine wpAny_bind (wpAny_pure (wpAny_pure ?_))
    refine ⟨plainId_quiet F.excBase_ValueError.init.plain _, codeAny_builtin F.excBase_ValueError.initEntry ?_⟩
    refine exc_init_tree (cls := .ref C) (t0 := t2) (dv := none) (c2 := .none) (c3 := .none) (b4 := .bool false) hx3 (by rw [← Paired.length r3, sizeLine_eq]; simp) fun h4 kp hx4 _ => ?_
    have I4 : Inv X [(h1.objs.size, kxs_mw "ValueError.__init__" x)] [some (.ref x), some v] H2 ⟨h4, g3, d3, tk3, os3⟩ := by
      have J := I3.write (t' := tk3) (x := x) (e := x) (o := exo x C none) (by rw [ex]; exact True.intro) (.inl rfl) kp ⟨_, hx4⟩ (exo_ok hx4)
      have eu : upd H2 x (exo x C none) = H2 := by
        funext b
        by_cases hb : b = x
        · rw [hb, upd_same, ex]
        · rw [upd_ne hb]
      rw [eu] at J
      exact J
    have ps : PS X (.Assign [.Attribute (.Name "self" q1) "index" q2] (.Name "index" q3) q4) (tOst K "index" (tVar 0) (tVar 1)) := ps_ost (pe_var rfl (.inl n1)) (pe_var rfl (.inl n2)) (by rfl)
    refine PySem.wpAt_of_wpAny (thn ((pss_one ps).run _ _ _ H2 { nx := fun _ H' => Q .non H', rt := Q } I4 ?_) fun fl s' hs => ?_)
    · exact ⟨v, rfl, .ref x, rfl, x, C, rfl, T.oex, T.noI, .inl ⟨ex, fun dx n ne => hq dx n ne⟩⟩
    · have fin : ∀ {σ' : L2.St} {H' : Hp} {v : V} {u : Value}, Inv X [(h1.objs.size, kxs_mw "ValueError.__init__" x)] σ' H' s' → RelV v u → Q v H' → CE outer P w H2 ⟨hh, g, d, tk, os⟩ Q u s' :=
        fun {σ' H' v u} J rv q => ⟨v, H', J.os, J.bare, J.base, J.hok, rv, q⟩
      cases fl with
      | ret u =>
        obtain ⟨v, σ', H', J, rv, q⟩ := hs
        exact fin J rv q
      | next =>
        obtain ⟨σ', H', J, q⟩ := hs
        exact fin (v := V.non) (u := Value.none) J rfl q
      | brk =>
        obtain ⟨_, _, _, q⟩ := hs
        exact False.elim q
      | cont =>
        obtain ⟨_, _, _, q⟩ := hs
        exact False.elim q
end

/-- the class BadPieces, to be made -/
structure BadP (P : Program) (w : World) (K : PySem.W.Frag) (mg : Str → Option Value) (base : Heap) (k : Nat) (C : Addr) : Prop where
  ex : ∃ (f : Addr) (fd : FuncData) (ps : List Str), OexC K C ∧ PySem.W.findIn K (.ref C) "__init__" = some (some (.ref f)) ∧ PySem.W.typeIn K (.ref f) = some (.type "function") ∧ mg "BadPieces" = some (.ref C) ∧ FnOk P w K mg base (L2.CX P w) k f fd ps (spBP C) ∧ Binds K fd ps []
section
variable {X : Cx} {k j : Nat} {C : Addr} {p pos pos2 : Pos} {e : Expr} {te : TE} {W : WX}
/-- what the making of a BadPieces asks -/
def bpPost (C : Addr) (v : V) (H1 : Hp) (Q : XK) : Prop := [v].length ≤ 1000 ∧ ∀ a, H1 a = none → spBP C (.ref a :: ([v] ++ [])) (upd H1 a (exo a C none))
  (fun u H2 => u = .non ∧ ∃ (d : Addr) (fs : List (Str × V)), H2 a = some (exo a C (some d)) ∧ H2 d = some (exd d fs) ∧ H1 d = none ∧ Q (.ref C) (some d) (upd (del H2 a) d (.xd fs))) (fun _ _ _ => False)
theorem bp_post {v : V} {H1 : Hp} {Q : XK} (h : ∀ d, H1 d = none → Q (.ref C) (some d) (upd H1 d (.xd [("index", v)]))) : bpPost C v H1 Q := by
  refine ⟨by simp, fun a ha => ⟨a, v, rfl, upd_same, fun dx n ne => ⟨rfl, dx, [("index", v)], upd_same, ?_, ?_, ?_⟩⟩⟩
  · rw [upd_ne ne, upd_same]
  · rw [upd_ne ne] at n
    exact n
  · rw [upd_ne ne] at n
    have e : upd (del (upd (upd (upd H1 a (exo a C none)) dx (exd dx [("index", v)])) a (exo a C (some dx))) a) dx (.xd [("index", v)]) = upd H1 dx (.xd [("index", v)]) := by
      funext b
      by_cases hb : b = dx
      · rw [hb, upd_same, upd_same]
      · rw [upd_ne hb, upd_ne hb]
        by_cases ha' : b = a
        · rw [ha', del_same, ha]
        · rw [del_ne ha', upd_ne ha', upd_ne hb, upd_ne ha']
    rw [e]
    exact h dx n
/-- raise BadPieces(e) -/
def tBP (W : WX) (C : Addr) (te : TE) : TS := fun _ σ H => te σ H fun v H1 => bpPost C v H1 fun cls d H' => W cls d σ H'
theorem ps_rzP (c : BadP X.prog X.w X.K X.mg X.base k C) (hr : Room j X.A) (hk : k + 1 ≤ j) (tk : Takes X W) (he : PE X e te) (hc : X.calm = true := by rfl) (hg : Gl X "BadPieces" := by rfl)
    (hst : starEach [e] X.env = (false, eval e X.env) :: starEach [] X.env := by rfl) (hpl : (backTo pos (starEach [] X.env)).any (·.1) = false := by rfl) :
    PS X (.Raise (some (.Call (.Name "BadPieces" p) [e] [] pos)) none pos2) (tBP W C te) := by
  obtain ⟨f, fd, ps, O, iC, tI, hm, F, b⟩ := c.ex
  exact ps_raise hc tk (pmk_oex (ta := tCons te tNil) (p := p) (pos := pos) O iC tI F (hr.mono hk) b (.nil) passL hg hm (pa_cons he pa_nil hst) (by decide) hst hpl)
end
end G


set_option Elab.async false
set_option linter.all false
set_option maxRecDepth 100000
set_option maxHeartbeats 4000000
set_option pp.deepTerms true
set_option pp.maxSteps 100000
set_option format.width 230
namespace G
open PySem PySem.Spec PyProof.Rows L2
local macro_rules | `(tactic| walk_at "rd") => `(tactic| try simp only [cxOf_K, tSeq, tIfS, tTest, tB, tCB, tCons, tNil, tC, tVar, tOp, tUn, tAndV, tOrV, tNotV, tAnd, tOr, tNot, tIf, tChain, tRet, tRetN, tAsg, gName, tDrop, tNext, tCallS, WE, rI0, rI, rU, L2.start, tYes, tLc, tFor, gTup, gCons, gNil, tPar, tPar3, tAug, ipI, tWidth, tCall, tMeth, tMake, tFld, tRows, tTable, sFld, rMulT, rSumT, gSub, tBM, rAppend, rSetL, rExtend, rSlL, rSlQ, tCol, Int.toNat_natCast,  tSl, tNoPart, tPart, tTup, tLst, tNever, itu_g, sDPut, tDNewK, tDNewN, tDispN, rSetN, rIxN, rInN, tGetN, rGetN, iKN, iIN, iRg3, iRng3, rGetL, tAugS, tNo, rCopyN, rRep,
  List.map_cons, List.map_nil, List.length_cons, List.length_nil, List.cons_append, List.nil_append, List.replicate, Nat.reduceAdd, Nat.reduceSub, Nat.zero_add, Nat.sub_self,
  List.getElem?_cons_zero, List.getElem?_cons_succ, List.set_cons_zero, List.set_cons_succ, wipe, Option.some.injEq, exists_eq_left', exists_eq_left, V.bl.injEq, V.int.injEq, ref_inj, ty_inj, if_true, if_false, Bool.false_eq_true, Bool.true_eq_false, exists_const, exists_and_left, true_and, and_true, List.cons.injEq,
  isB_int, isB_bool, isB_tuple, isB_list, isT_at, iSq, iRg1, iRg2, iZ2, iZ3, iEn])
local macro_rules | `(tactic| walk_at "r1") => `(tactic| try simp only [cxOf_K, tSeq, tIfS, tTest, tB, tCB, tCons, tNil, tC, tVar, tOp, tUn, tAndV, tOrV, tNotV, tAnd, tOr, tNot, tIf, tChain, tRet, tRetN, tAsg, gName, tDrop, tNext, tCallS, WE, rI0, rI, rU, L2.start, tYes, gTup, gCons, gNil, tPar, tPar3, tAug, ipI, tWidth, tCall, tMeth, tMake, tFld, tRows, tTable, sFld, rMulT, rSumT, gSub, tBM, rAppend, rSetL, rExtend, rSlL, rSlQ, tCol, Int.toNat_natCast,  tSl, tNoPart, tPart, tTup, tLst, tNever, itu_g, sDPut, tDNewK, tDNewN, tDispN, rSetN, rIxN, rInN, tGetN, rGetN, iKN, iIN, iRg3, iRng3, rGetL, tAugS, tNo, rCopyN, rRep,
  List.map_cons, List.map_nil, List.length_cons, List.length_nil, List.cons_append, List.nil_append, List.replicate, Nat.reduceAdd, Nat.reduceSub, Nat.zero_add, Nat.sub_self,
  List.getElem?_cons_zero, List.getElem?_cons_succ, List.set_cons_zero, List.set_cons_succ, wipe, Option.some.injEq, exists_eq_left', exists_eq_left, V.bl.injEq, V.int.injEq, ref_inj, ty_inj, if_true, if_false, Bool.false_eq_true, Bool.true_eq_false, exists_const, exists_and_left, true_and, and_true, List.cons.injEq,
  isB_int, isB_bool, isB_tuple, isB_list, isT_at, iSq, iRg1, iRg2, iZ2, iZ3, iEn])
local macro_rules | `(tactic| walk_at "r0") => `(tactic| try simp only [cxOf_K, tIfS, tTest, tB, tCB, tCons, tNil, tC, tVar, tOp, tUn, tAndV, tOrV, tNotV, tAnd, tOr, tNot, tIf, tChain, tRet, tRetN, tAsg, gName, tDrop, tNext, tCallS, WE, rI0, rI, rU, L2.start, tYes, gTup, gCons, gNil, tPar, tPar3, tAug, ipI, tWidth, tCall, tMeth, tMake, tFld, tRows, tTable, sFld, rMulT, rSumT, gSub, tBM, rAppend, rSetL, rExtend, rSlL, rSlQ, tCol, Int.toNat_natCast,  tSl, tNoPart, tPart, tTup, tLst, tNever, itu_g, sDPut, tDNewK, tDNewN, tDispN, rSetN, rIxN, rInN, tGetN, rGetN, iKN, iIN, iRg3, iRng3, rGetL, tAugS, tNo, rCopyN, rRep,
  List.map_cons, List.map_nil, List.length_cons, List.length_nil, List.cons_append, List.nil_append, List.replicate, Nat.reduceAdd, Nat.reduceSub, Nat.zero_add, Nat.sub_self,
  List.getElem?_cons_zero, List.getElem?_cons_succ, List.set_cons_zero, List.set_cons_succ, wipe, Option.some.injEq, exists_eq_left', exists_eq_left, V.bl.injEq, V.int.injEq, ref_inj, ty_inj, if_true, if_false, Bool.false_eq_true, Bool.true_eq_false, exists_const, exists_and_left, true_and, and_true, List.cons.injEq,
  isB_int, isB_bool, isB_tuple, isB_list, isT_at, iSq, iRg1, iRg2, iZ2, iZ3, iEn])
local macro_rules | `(tactic| walk_at "st") => `(tactic| ((try dsimp only); rw [tSeq_def]))
local macro_rules | `(tactic| walk_at "lp") => `(tactic| first | rw [tFor_def] | rw [tLc_def] | rw [tWhile_def])
local macro_rules | `(tactic| walk_at "ex") => `(tactic| simp only [List.cons.injEq, and_true, true_and, and_assoc, exists_and_left, exists_eq_left', exists_eq_left, exists_eq_right, exists_const, V.int.injEq, V.bl.injEq, ref_inj, Bool.not_true, Bool.not_false, Bool.false_eq_true, if_true, if_false, Bool.true_eq_false])
section
variable {P : Program} {w : World} {K : PySem.W.Frag} {mg : Str → Option Value} {base : Heap} {a : Ad}
/-- pieces: a list or a tuple -/
def PcAs (H : Hp) (l : Addr) (xs : List V) : Prop := H l = some (.lst xs) ∨ H l = some (.tup xs)
theorem PcAs.same {H H' : Hp} {l : Addr} {xs : List V} (h : PcAs H l xs) (e : Same H H') : PcAs H' l xs := h.elim (fun h => .inl (e _ _ h)) (fun h => .inr (e _ _ h))
theorem PcAs.sq {K : PySem.W.Frag} {H : Hp} {l : Addr} {xs : List V} (h : PcAs H l xs) : ∃ t, ∀ H', Same H H' → SqA K t H' l xs := h.elim (fun h => ⟨true, fun H' e => sqA_l (e _ _ h)⟩) (fun h => ⟨false, fun H' e => sqA_t (e _ _ h)⟩)
theorem PcAs.some {H : Hp} {l : Addr} {xs : List V} (h : PcAs H l xs) : ∃ o, H l = some o := h.elim (fun h => ⟨_, h⟩) (fun h => ⟨_, h⟩)
theorem PcAs.isB {H : Hp} {l : Addr} {xs : List V} (h : PcAs H l xs) : (G.isB H (.ref l) "list" || G.isB H (.ref l) "tuple") = true := by
  rcases h with h | h <;> (unfold G.isB; simp only [h]; decide)
theorem PcAs.tg {CT : Addr} {H : Hp} {l : Addr} {xs : List V} (h : PcAs H l xs) : Tg CT H (.ref l) := h.elim (fun h => .lst h) (fun h => .tup h)
/-- BadPieces, with this index -/
def RzP (a : Ad) (E : XK) (H : Hp) (v : V) : Prop := ∀ H' d, Same H H' → H' d = some (.xd [("index", v)]) → E (.ref a.cPc) (some d) H'
/-- k times the same table of n rows of zeros, and right prices -/
structure PcOk (a : Ad) (H : Hp) (v p : V) (l : Addr) (k : Nat) (one : V) (n w : Nat) : Prop where
  v : v = .ref l
  as : PcAs H l (List.replicate k one)
  k1 : 1 ≤ k
  k6 : k ≤ 6
  tb : Tb a.CT H one (List.replicate n (List.replicate w 0))
  sh : Shp (List.replicate n (List.replicate w 0)) w
  kn : k * n ≤ 10
  pr : prB H p w = true
theorem PcOk.n1 {a : Ad} {H : Hp} {v p : V} {l : Addr} {k : Nat} {one : V} {n w : Nat} (c : PcOk a H v p l k one n w) : 1 ≤ n := by
  have h := c.sh.pos
  rw [List.length_replicate] at h
  exact h
/-- what the checks of pieces find -/
inductive PreP (a : Ad) (H : Hp) (E : XK) (v p : V) (ok : Addr → Nat → V → Nat → Nat → Prop) : Prop where
  | no (g : Tg a.CT H v) (h : (isB H v "list" || isB H v "tuple") = false) (q : RzP a E H .non)
  | len {l : Addr} {xs : List V} (hv : v = .ref l) (hl : PcAs H l xs) (hn : xs.length = 0 ∨ 6 < xs.length) (q : RzP a E H .non)
  | bad {l : Addr} {i : Nat} {one y : V} {ys : List V} {R : List (List Int)} {w : Nat} (hv : v = .ref l) (hl : PcAs H l (List.replicate i one ++ y :: ys)) (hn : i + ys.length < 6) (h0 : 0 < i → Tb a.CT H one R ∧ Shp R w) (gy : Tg a.CT H y)
      (hy : isT a.CT H y = false ∨ (0 < i ∧ ∃ R' w', Tb a.CT H y R' ∧ Shp R' w' ∧ w' ≠ w)) (q : RzP a E H (.int (i : Nat)))
  | ok {l : Addr} {k n w : Nat} {one : V} (hv : v = .ref l) (hl : PcAs H l (List.replicate k one)) (k1 : 1 ≤ k) (k6 : k ≤ 6) (tb : Tb a.CT H one (List.replicate n (List.replicate w 0))) (sh : Shp (List.replicate n (List.replicate w 0)) w) (gp : TgP a.CT H p)
      (q1 : 10 < k * n → Rz E H a.cTL) (q2 : k * n ≤ 10 → prB H p w = false → Rz E H a.cBP) (q3 : k * n ≤ 10 → prB H p w = true → ok l k one n w)
theorem isT_sm {CT : Addr} {H H' : Hp} {v : V} (g : Tg CT H v) (e : Same H H') : isT CT H' v = isT CT H v := by
  cases g with
  | non => rfl
  | bl b => rfl
  | int i => rfl
  | str s => rfl
  | lst h => unfold isT; simp only [h, e _ _ h]
  | tup h => unfold isT; simp only [h, e _ _ h]
  | dK h => unfold isT; simp only [h, e _ _ h]
  | tab h => unfold isT; simp only [h, e _ _ h]
theorem PreP.same {a : Ad} {H H' : Hp} {E : XK} {v p : V} {ok ok' : Addr → Nat → V → Nat → Nat → Prop} (pt : PreP a H E v p ok) (e : Same H H') (f : ∀ l k one n w, ok l k one n w → ok' l k one n w) : PreP a H' E v p ok' := by
  cases pt with
  | no g h q => exact .no (g.same e) (by rw [isB_same g e, isB_same g e]; exact h) fun H2 d e2 h2 => q H2 d (e.trans e2) h2
  | len hv hl hn q => exact .len hv (hl.same e) hn fun H2 d e2 h2 => q H2 d (e.trans e2) h2
  | bad hv hl hn h0 gy hy q =>
    refine .bad hv (hl.same e) hn (fun h => ⟨(h0 h).1.same e, (h0 h).2⟩) (gy.same e) ?_ fun H2 d e2 h2 => q H2 d (e.trans e2) h2
    rcases hy with hy | ⟨h1, R', w', t, S, ne⟩
    · exact .inl (by rw [isT_sm gy e]; exact hy)
    · exact .inr ⟨h1, R', w', t.same e, S, ne⟩
  | ok hv hl k1 k6 tb sh gp q1 q2 q3 =>
    exact .ok hv (hl.same e) k1 k6 (tb.same e) sh (gp.same e) (fun h H2 e2 => q1 h H2 (e.trans e2)) (fun h h2 H2 e2 => q2 h (by rw [← prB_same gp.1 e]; exact h2) H2 (e.trans e2)) fun h h2 => f _ _ _ _ _ (q3 h (by rw [← prB_same gp.1 e]; exact h2))
theorem PreP.tg {a : Ad} {H : Hp} {E : XK} {v p : V} {ok : Addr → Nat → V → Nat → Nat → Prop} (pt : PreP a H E v p ok) : Tg a.CT H v := by
  cases pt with
  | no g h q => exact g
  | len hv hl hn q => exact hv ▸ hl.tg
  | bad hv hl hn h0 gy hy q => exact hv ▸ hl.tg
  | ok hv hl k1 k6 tb sh gp q1 q2 q3 => exact hv ▸ hl.tg
theorem bp_rz {a : Ad} {E : XK} {H H1 : Hp} {v : V} (q : RzP a E H v) (e : Same H H1) : bpPost a.cPc v H1 fun cls d H' => E cls d H' := bp_post fun d hd => q _ d (same_up e hd) upd_same
theorem len_pc {K : PySem.W.Frag} {CT : Addr} {H : Hp} {Q : VK} {l : Addr} {xs : List V} (h : PcAs H l xs) (q : Q (.int (xs.length : Nat)) H) : rLenA K CT [.ref l] H Q := h.elim (fun h => len_l h q) (fun h => len_t h q)
theorem ix_pc {K : PySem.W.Frag} {H : Hp} {Q : VK} {l : Addr} {xs : List V} {i : Int} {v : V} (h : PcAs H l xs) (hi : atI xs i = some v) (q : Q v H) : rIx K (.ref l) (.int i) H Q := h.elim (fun h => ix_l h hi q) (fun h => ix_t h hi q)
theorem sum_const {n : Int} : ∀ {k : Nat}, ((List.range k).map fun _ => n).sum = k * n
  | 0 => by simp
  | k + 1 => by
    rw [List.range_succ, List.map_append, List.sum_append, sum_const]
    simp
    rw [Int.add_mul, Int.one_mul]
def spCk (a : Ad) : Sp := fun vs H Q E => ∃ v p, vs = [v, p] ∧ PreP a H E v p fun _ _ _ _ _ => ∀ H', Same H H' → Q .non H'
theorem preP_ck {a : Ad} {H : Hp} {E : XK} {v p : V} {ok : Addr → Nat → V → Nat → Nat → Prop} {Q : VK} (pt : PreP a H E v p ok) (f : ∀ l k one n w, PcOk a H v p l k one n w → ok l k one n w → ∀ H', Same H H' → Q .non H') : spCk a [v, p] H Q E := by
  refine ⟨v, p, rfl, ?_⟩
  cases pt with
  | no g h q => exact .no g h q
  | len hv hl hn q => exact .len hv hl hn q
  | bad hv hl hn h0 gy hy q => exact .bad hv hl hn h0 gy hy q
  | ok hv hl k1 k6 tb sh gp q1 q2 q3 => exact .ok hv hl k1 k6 tb sh gp q1 q2 fun h1 h2 => f _ _ _ _ _ ⟨hv, hl, k1, k6, tb, sh, h1, h2⟩ (q3 h1 h2)
abbrev N_check_pieces : List Str := ["pieces", "prices", "index", "piece", "price"]
theorem ok_check_pieces (D : Def K mg "check_pieces" 27) (T : Txt K mg a) (M : TabM P w K mg base a.CT) (c_BadPieces : BadP P w K mg base 1 a.cPc) (c_is_number : CalX P w K mg base 1 "is_number" (spNum a.CT)) : CalX P w K mg base 3 "check_pieces" (spCk a) := by
  refine calx (N := N_check_pieces) (ps := ["pieces", "prices"]) D (by decide +kernel) (fun vs H Q E h => ?_) (fun _ _ _ _ _ _ us hl => match us, hl with | [_, _], _ => rfl) (fun f cdv A outer s H vs Q E hr nd tk pn h => ⟨_, (pss_cons (ps_if (PW.pt (pw_or (pt_not (pt_val (pe_callB (call_isLT T.k) (by rfl) T.isinstance bi_isinstance (pa_cons (pv 0) (pa_cons (pe_tup (pa_cons (pe_bltn (v := .ty "list") (by rfl) T.list bi_list rfl) (pa_cons (pe_bltn (v := .ty "tuple") (by rfl) T.tuple bi_tuple rfl) pa_nil))) pa_nil))))) (pw_or1 (pt_not (pt_chain op_le op_le pe_int (pe_callB (call_lenK (K := K) rfl M hr (by decide)) (by rfl) T.len bi_len (pa_cons (pv 0) pa_nil)) (C8.pe_gc (by rfl) T.mpieces))))))
      (pss_one (ps_rzP c_BadPieces hr (by decide) tk pe_non))
      pss_nil)
      (pss_cons (ps_for pn rfl (pi_en (by rfl) T.enumerate (pa_cons (pv 0) pa_nil)) (pg_tupK (K := K) (n := 2) rfl rfl (pgs_cons (pg_name (i := 2) nd rfl (Or.inl rfl)) (pgs_cons (pg_name (i := 3) nd rfl (Or.inl rfl)) pgs_nil)))
      (pss_one (ps_if (PW.pt (pw_or (pt_not (pt_val (pe_callB (call_isT T.k) (by rfl) T.isinstance bi_isinstance (pa_cons (pv 3) (pa_cons (C8.pe_gc (by rfl) T.vTable) pa_nil))))) (pw_or1 (pt_cmpR op_ne (pe_width M hr (by decide) (pv 3)) (pe_width M hr (by decide) (pe_ix (ixK (K := K) rfl) (pv 0) pe_int (fun _ _ => rfl))) (nomark _)))))
      (pss_one (ps_rzP c_BadPieces hr (by decide) tk (pv 2)))
      pss_nil)))
      (pss_cons (ps_if (pt_cmpR op_gt (pe_callB (crK_sum (K := K) rfl rfl) (by rfl) T.sum bi_sum (pa_cons (pe_lc (own := [("piece", 3)]) rfl nd (pi_sq (pv 0)) (blkOk_by (own := [("piece", 3)]) (N := N_check_pieces) (sc := defScope (top 27)) (by decide +kernel)) (fun _ _ _ _ _ => (pg_name (i := 3) nd rfl (Or.inl rfl))) (fun _ _ _ _ _ => pts_nil) (fun _ _ _ _ _ => (pe_callB (call_lenK (K := K) rfl M hr (by decide)) (by rfl) T.len bi_len (pa_cons (pv 3) pa_nil)))) pa_nil)) (C8.pe_gc (by rfl) T.mrows) (nomark _))
      (pss_one (ps_rz T.TooLarge tk))
      pss_nil)
      (pss_cons (ps_if (PW.pt (pw_or (pt_not (pt_val (pe_callB (call_isB T.k) (by rfl) T.isinstance bi_isinstance (pa_cons (pv 1) (pa_cons (pe_bltn (v := .ty "tuple") (by rfl) T.tuple bi_tuple rfl) pa_nil))))) (pw_or1 (pt_cmpR op_ne (pe_callB (call_lenK (K := K) rfl M hr (by decide)) (by rfl) T.len bi_len (pa_cons (pv 1) pa_nil)) (pe_width M hr (by decide) (pe_ix (ixK (K := K) rfl) (pv 0) pe_int (fun _ _ => rfl))) (nomark _)))))
      (pss_one (ps_rz T.BadPrices tk))
      pss_nil)
      (pss_one (ps_if (pt_not (pt_val (pe_callB (crK_all (K := K) rfl rfl) (by rfl) T.all bi_all (pa_cons (pe_lc (own := [("price", 4)]) rfl nd (pi_sq (pv 1)) (blkOk_by (own := [("price", 4)]) (N := N_check_pieces) (sc := defScope (top 27)) (by decide +kernel)) (fun _ _ _ _ _ => (pg_name (i := 4) nd rfl (Or.inl rfl))) (fun _ _ _ _ _ => pts_nil) (fun _ _ _ _ _ => (pe_cx c_is_number hr (by decide) tk0 (pa_cons (pv 4) (pa_cons pe_int (pa_cons (C8.pe_gc (by rfl) T.mprice) pa_nil)))))) pa_nil))))
      (pss_one (ps_rz T.BadPrices tk))
      pss_nil)))))), ?_⟩)
  · obtain ⟨v, p, rfl, _⟩ := h
    rfl
  · obtain ⟨v, p, rfl, pt⟩ := h
    clear tk pn nd hr
    walk_at "st"
    walk_at "r0"
    simp only [tBP]
    refine ⟨by decide, fun p1 hp1 => ⟨_, p1, rfl, upd_same, ?_, ?_⟩⟩
    · exact pt.tg.same (same_new (Same.refl H) hp1)
    have e0 : Same H (upd H p1 (.tup [.ty "list", .ty "tuple"])) := same_new (Same.refl H) hp1
    have pt0 := pt.same e0 (ok' := fun _ _ _ _ _ => ∀ H', Same (upd H p1 (.tup [.ty "list", .ty "tuple"])) H' → Q .non H') fun _ _ _ _ _ q H' e => q H' (e0.trans e)
    clear pt
    generalize upd H p1 (.tup [.ty "list", .ty "tuple"]) = H0 at e0 pt0 ⊢
    refine ⟨_, rfl, ?_⟩
    cases pt0 with
    | no g h q =>
      rw [h]
      exact bp_rz q (Same.refl _)
    | len hv hl hn q =>
      subst hv
      rw [hl.isB, if_neg (by decide)]
      refine len_pc hl ⟨_, rfl, ?_⟩
      rcases hn with hn | hn
      · rw [if_neg (by rw [decide_eq_true_eq]; omega), if_pos (by decide)]
        exact bp_rz q (Same.refl _)
      · rw [if_pos (by rw [decide_eq_true_eq]; omega)]
        refine ⟨_, rfl, ?_⟩
        rw [if_pos (by simp; omega)]
        exact bp_rz q (Same.refl _)
    | bad hv hl hn h0 gy hy q =>
      rename_i l i one y ys R wd
      subst hv
      rw [hl.isB, if_neg (by decide)]
      refine len_pc hl ⟨_, rfl, ?_⟩
      rw [List.length_append, List.length_replicate, List.length_cons]
      rw [if_pos (by rw [decide_eq_true_eq]; omega)]
      refine ⟨_, rfl, ?_⟩
      rw [if_neg (by simp; omega)]
      walk_at "st"
      walk_at "r0"
      walk_at "lp"
      walk_at "r0"
      obtain ⟨t, sq⟩ := hl.sq (K := K)
      have hlen : (List.replicate i one ++ y :: ys).length = i + (ys.length + 1) := by rw [List.length_append, List.length_replicate, List.length_cons]
      refine ⟨t, _, sq _ (Same.refl _), ?_⟩
      refine forB (fun j σ H' => j ≤ i ∧ Same H0 H' ∧ ∃ v2 v3, σ = [some (.ref l), some p, v2, v3, none]) ⟨Nat.zero_le _, Same.refl H0, none, none, rfl⟩ (fun j σ H' _ h => sq _ h.2.1) ?_ ?_
      · rintro j v σ H1 H2 Nx hj ⟨hji, e1, v2, v3, rfl⟩ y1 nx
        simp only [yT] at y1
        obtain ⟨T0, rfl, hT, rfl⟩ := y1
        have e2 := same_up (o := .tup [.int (j : Nat), (List.replicate i one ++ y :: ys).getD j .non]) e1 hT
        refine un2 upd_same ?_
        generalize upd H1 T0 _ = H3 at e2 ⊢
        walk_at "rd"
        simp only [tBP]
        by_cases hji' : j < i
        · have hg : (List.replicate i one ++ y :: ys).getD j .non = one := by
            rw [List.getD_eq_getElem?_getD, List.getElem?_append_left (by simpa using hji'), List.getElem?_replicate, if_pos hji', Option.getD_some]
          rw [hg]
          obtain ⟨t1, S1⟩ := h0 (by omega)
          have t2 := t1.same e2
          refine ⟨t2.tg, ?_⟩
          rw [t2.isT, if_neg (by decide)]
          obtain ⟨row, R', rfl, hw⟩ := shp_cons S1
          refine ⟨row, R', t2, ix_pc (hl.same e2) (atI_nat (k := 0) (v := one) (by rw [List.getElem?_append_left (by simpa using (by omega : 0 < i)), List.getElem?_replicate, if_pos (by omega)])) ⟨row, R', t2, rfl, _, rfl, ?_⟩⟩
          rw [if_neg (by simp)]
          exact nx _ _ ⟨by omega, e2, _, _, rfl⟩
        · obtain rfl : j = i := by omega
          have hg : (List.replicate j one ++ y :: ys).getD j .non = y := by
            rw [List.getD_eq_getElem?_getD, List.getElem?_append_right (by simp), List.length_replicate, Nat.sub_self, List.getElem?_cons_zero, Option.getD_some]
          rw [hg]
          have g2 := gy.same e2
          refine ⟨g2, ?_⟩
          rcases hy with hy | ⟨hj0, R', w', t', S', ne⟩
          · rw [isT_sm gy e2, hy, if_pos (by decide)]
            exact ⟨_, rfl, bp_rz q e2⟩
          · have t2 := t'.same e2
            rw [t2.isT, if_neg (by decide)]
            obtain ⟨t1, S1⟩ := h0 hj0
            have t3 := t1.same e2
            obtain ⟨row, R2, rfl, hw⟩ := shp_cons S1
            obtain ⟨row', R2', rfl, hw'⟩ := shp_cons S'
            refine ⟨row', R2', t2, ix_pc (hl.same e2) (atI_nat (k := 0) (v := one) (by rw [List.getElem?_append_left (by simpa using hj0), List.getElem?_replicate, if_pos hj0])) ⟨row, R2, t3, rfl, _, rfl, ?_⟩⟩
            rw [if_pos (by rw [hw, hw']; simp; omega)]
            exact ⟨_, rfl, bp_rz q e2⟩
      · rintro σ H1 ⟨hji, _⟩
        omega
    | ok hv hl k1 k6 tb sh gp q1 q2 q3 =>
      rename_i l k n wd one
      subst hv
      obtain ⟨row, R', hR, hw⟩ := shp_cons sh
      rw [hl.isB, if_neg (by decide)]
      refine len_pc hl ⟨_, rfl, ?_⟩
      rw [List.length_replicate]
      rw [if_pos (by rw [decide_eq_true_eq]; omega)]
      refine ⟨_, rfl, ?_⟩
      rw [if_neg (by simp; omega)]
      obtain ⟨t, sq⟩ := hl.sq (K := K)
      have at0 : atI (List.replicate k one) 0 = some one := atI_nat (k := 0) (by rw [List.getElem?_replicate, if_pos (by omega)])
      walk_at "st"
      walk_at "r0"
      walk_at "lp"
      walk_at "r0"
      refine ⟨t, _, sq _ (Same.refl _), ?_⟩
      refine forB (fun j σ H' => Same H0 H' ∧ ∃ v2 v3, σ = [some (.ref l), some p, v2, v3, none]) ⟨Same.refl H0, none, none, rfl⟩ (fun j σ H' _ h => sq _ h.1) ?_ ?_
      · rintro j v σ H1 H2 Nx hj ⟨e1, v2, v3, rfl⟩ y1 nx
        simp only [yT] at y1
        obtain ⟨T0, rfl, hT, rfl⟩ := y1
        have e2 := same_up (o := .tup [.int (j : Nat), (List.replicate k one).getD j .non]) e1 hT
        refine un2 upd_same ?_
        rw [List.length_replicate] at hj
        have hg : (List.replicate k one).getD j .non = one := by
          rw [List.getD_eq_getElem?_getD, List.getElem?_replicate, if_pos hj, Option.getD_some]
        rw [hg] at e2 ⊢
        generalize upd H1 T0 _ = H3 at e2 ⊢
        walk_at "rd"
        simp only [tBP]
        have t2 := tb.same e2
        refine ⟨t2.tg, ?_⟩
        rw [t2.isT, if_neg (by decide)]
        rw [hR] at t2
        refine ⟨row, R', t2, ix_pc (hl.same e2) at0 ⟨row, R', t2, rfl, _, rfl, ?_⟩⟩
        rw [if_neg (by simp)]
        exact nx _ _ ⟨e2, _, _, rfl⟩
      · rintro σ H1 ⟨e1, v2, v3, rfl⟩
        walk_at "st"
        walk_at "r0"
        walk_at "lp"
        walk_at "r0"
        refine ⟨t, _, sq _ e1, fun D1 hD1 => ?_⟩
        refine lcA (fun _ => .int (n : Nat)) hD1 (by rw [List.length_replicate]; omega) (fun H' e => sq _ (e1.trans e)) (fun j v H2 H3 acc Nx hj e2 _ y1 nx => ?_) (fun H2 e2 h => ?_)
        · simp only [yV] at y1
          obtain ⟨rfl, rfl⟩ := y1
          rw [List.length_replicate] at hj
          have hg : (List.replicate k one).getD j .non = one := by
            rw [List.getD_eq_getElem?_getD, List.getElem?_replicate, if_pos hj, Option.getD_some]
          rw [hg]
          exact len_tb (tb.same (e1.trans e2)) (by rw [List.length_replicate]; exact nx _ (Same.refl _))
        · refine sum_l (ns := (List.range k).map fun _ => (n : Int)) (by rw [h, List.length_replicate, List.map_map]; rfl) ⟨_, rfl, ?_⟩
          rw [sum_const]
          have e3 : Same H0 H2 := e1.trans e2
          by_cases hs : 10 < k * n
          · rw [if_pos (by rw [decide_eq_true_eq]; omega)]
            exact q1 hs _ e3
          rw [if_neg (by rw [decide_eq_true_eq]; omega)]
          have q2 := fun h => q2 (by omega) h
          have q3 := fun h => q3 (by omega) h
          clear q1 hs hD1 h
          walk_at "st"
          walk_at "r0"
          have pe := prB_same (n := wd) gp.1 e3
          have gp2 := gp.same e3
          have t2 := tb.same e3
          have p2 : prB H2 p wd = false → ∀ H', Same H2 H' → E (.ref a.cBP) none H' := fun h H' e => q2 (by rw [← pe]; exact h) H' (e3.trans e)
          have p3 : prB H2 p wd = true → ∀ H', Same H2 H' → Q .non H' := fun h H' e => q3 (by rw [← pe]; exact h) H' (e3.trans e)
          have l2 := hl.same e3
          clear q2 q3 pe e3 gp hl sq tb e2
          rw [hR] at t2
          refine ⟨gp2.1, ?_⟩
          have no : prB H2 p wd = false → E (.ref a.cBP) none H2 := fun h => p2 h H2 (Same.refl H2)
          obtain ⟨g1, g2⟩ := gp2
          cases g1 with
          | tup hp =>
            rename_i pa xs
            obtain ⟨gx, gl⟩ := g2 pa xs rfl hp
            simp only [isB, hp, beq_self_eq_true, Bool.not_true, Bool.false_eq_true, if_false]
            refine len_t hp (ix_pc l2 at0 ⟨row, R', t2, rfl, _, rfl, ?_⟩)
            have pb : prB H2 (.ref pa) wd = (decide (xs.length = wd) && xs.all fun x => isNum x 0 9) := by unfold prB; simp only [hp]
            rw [pb] at p2 p3
            by_cases hxl : xs.length = wd
            · rw [if_neg (by rw [dec_int, hw]; simp; omega)]
              rw [decide_eq_true hxl, Bool.true_and] at p2 p3
              walk_at "lp"
              walk_at "r0"
              simp only [spNum]
              walk_at "ex"
              refine ⟨false, xs, sqA_t hp, fun D hD => ?_⟩
              refine lcA (fun i => .bl (isNum (xs.getD i .non) 0 9)) hD (by omega) (fun H' e => sqA_t (e _ _ hp)) (fun i v H1 H2 acc Nx hi e1 ha y k => ?_) (fun H' e h => ?_)
              · obtain ⟨rfl, rfl⟩ := y
                exact ⟨(gx _ (getD_lt hi rfl)).same e1, k _ (Same.refl _)⟩
              · refine all_l (bs := (List.range xs.length).map fun i => isNum (xs.getD i .non) 0 9) (by rw [h, mapmap]) ⟨_, rfl, ?_⟩
                rw [all_getD (f := fun v => isNum v 0 9)]
                cases hb : xs.all fun x => isNum x 0 9 with
                | true => simp only [Bool.not_true, Bool.false_eq_true, if_false]; exact p3 hb H' e
                | false => simp only [Bool.not_false, if_true]; exact p2 hb H' e
            · rw [if_pos (by rw [dec_int, hw]; simp; omega)]
              exact no (by rw [pb]; simp [hxl])
          | lst h => simp only [isB, h]; exact no (by unfold prB; simp only [h])
          | dK h => simp only [isB, h]; exact no (by unfold prB; simp only [h])
          | tab h => simp only [isB, h]; exact no (by unfold prB; simp only [h])
          | _ => exact no rfl
end
end G


set_option Elab.async false
set_option linter.all false
set_option maxRecDepth 100000
set_option maxHeartbeats 4000000
/-! t[::-1] of a tuple. -/
namespace G
open PySem PySem.Spec PyProof.Rows L2 HT
section
variable {prog : Program} {w : World} {A : Around} {E : Value → Shared → Prop} {s : Shared}
theorem back_places (n : Nat) : Builtin.Slice.slicePlaces ((n : Int) - 1) (-1) (-1) = n := by
  unfold Builtin.Slice.slicePlaces
  rw [if_neg (by decide)]
  by_cases h : (n : Int) - 1 > -1
  · rw [if_pos h, show (-(-1) : Int) = 1 by decide, Int.ediv_one]
    omega
  · rw [if_neg h]
    omega
theorem sl_back {sl : Addr} {vs : Value} {n : Nat} {Q : Int × Int × Nat → Shared → Prop} (hs : s.heap.IsSliceOf sl .none .none vs) (ps : IsPart vs (some (-1))) (h : Q ((n : Int) - 1, -1, n) s) :
    wpAny (model prog w) A (Builtin.Slice.sliceApplied (.ref sl) (pure (n : Int))) Q E s := by
  obtain ⟨oS, hS, _, hd⟩ := hs
  unfold Builtin.Slice.sliceApplied Builtin.Slice.sliceFields
  refine wpAny_bind (wpAny_bind (wpAny_field hS hd (x := .none) rfl (wpAny_bind (wpAny_field hS hd (x := .none) rfl (wpAny_bind (wpAny_field hS hd (x := vs) rfl (wpAny_pure ?_)))))))
  refine wpAny_bind (slicePart_ ps ?_)
  show wpAny _ _ (if ((-1 : Int) == 0) = true then _ else _) _ _ s
  rw [if_neg (by decide)]
  refine wpAny_bind (slicePart_ .none (wpAny_bind (slicePart_ .none (wpAny_bind (wpAny_pure ?_)))))
  show wpAny _ _ (pure ((n : Int) - 1, (-1 : Int), Builtin.Slice.slicePlaces ((n : Int) - 1) (-1) (-1))) _ _ s
  rw [back_places]
  exact wpAny_pure h
theorem back_pick (xs : Array Value) : ((List.range xs.size).filterMap fun (m : Nat) => xs[((xs.size : Int) - 1 + (m : Int) * -1).toNat]?).toArray = xs.toList.reverse.toArray := by
  have e : (fun (m : Nat) => xs[((xs.size : Int) - 1 + (m : Int) * -1).toNat]?) = fun m => xs[xs.size - 1 - m + (if xs.size = 0 then 0 else if m < xs.size then 0 else 0)]? := by
    funext m
    have : ((xs.size : Int) - 1 + (m : Int) * -1).toNat = xs.size - 1 - m := by omega
    rw [this]
    congr 1
    split <;> simp
  have e2 : (fun m => xs[xs.size - 1 - m + (if xs.size = 0 then 0 else if m < xs.size then 0 else 0)]?) = ((xs[·]?) ∘ fun k => xs.size - 1 - k) := by
    funext m
    show xs[xs.size - 1 - m + _]? = xs[xs.size - 1 - m]?
    congr 1
    split <;> simp
  rw [e, e2, ← List.filterMap_map, PySem.W.krv_range, List.filterMap_reverse, PySem.W.krv_all]
theorem getItem_tuple_back {t sl : Addr} {items : Array Value} {vs : Value} {Q : Value → Shared → Prop} (ht : IsTup s.heap t items) (hs : s.heap.IsSliceOf sl .none .none vs) (ps : IsPart vs (some (-1)))
    (h : Q (.ref s.heap.objs.size) { s with heap := s.heap.push { cls := .type "tuple", data := .seq items.toList.reverse.toArray } }) (hz : items.size ≤ sizeLine) : wpAny (model prog w) A (getItem (.ref t) (.ref sl)) Q E s := by
  have hk : sizeOk (.seq items.toList.reverse.toArray) := by
    show items.toList.reverse.toArray.size ≤ sizeLine
    simpa using hz
  have hTs : s.TypeIs (.ref sl) "slice" := let ⟨oS, h1, h2, _⟩ := hs; ⟨oS, h1, h2⟩
  unfold getItem
  try with_reducible refine wpAny_holding ?_
  first | refine wpAny_bind (wpAny_pure ?_) | skip
  refine wpAny_bind (wpAny_sequenceKey ht.typeIs (by decide) ?_)
  refine wpAny_bind (wpAny_callSpecial?_slot (name := Str.ofString "__getitem__") ht.typeIs PyProof.Rows.slot_tuple_getitem (wpAny_call_entry PyProof.Rows.slot_tuple_getitem ht.typeIs entry_tuple_getitem ?_ (args_tuple_getitem _ _)))
  show wpAny _ _ (Builtin.Tuple.tupleItemsOf (.ref t) >>= _) _ _ s
  refine wpAny_bind (tupleItemsOf_ ht ?_)
  refine wpAny_bind (wpAny_typeOf hTs ?_)
  rw [if_pos (by decide)]
  refine wpAny_bind (sl_back hs ps ?_)
  have hno : ¬ ((((items.size : Int) - 1) == 0 && (-1 : Int) == 1 && items.size == items.size) = true) := by simp
  show wpAny _ _ (if (((items.size : Int) - 1) == 0 && (-1 : Int) == 1 && items.size == items.size) = true then _ else _) _ _ s
  rw [if_neg hno, back_pick]
  first
    | exact wpAny_bind (m := Builtin.Tuple.tupleExact _) (wpAny_newObj_type (wpAny_pure ⟨_, rfl, wpAny_pure h⟩) hk)
    | exact wpAny_bind (m := Builtin.Tuple.tupleExact _) (wpAny_newObj_type (wpAny_bind (wpAny_pure (wpAny_pure ⟨_, rfl, wpAny_pure h⟩))) hk)
    | exact wpAny_bind (wpAny_bind (m := Builtin.Tuple.tupleExact _) (wpAny_newObj_type (wpAny_pure (wpAny_pure ⟨_, rfl, wpAny_pure h⟩)) hk))
    | exact wpAny_bind (wpAny_bind (m := Builtin.Tuple.tupleExact _) (wpAny_newObj_type (wpAny_pure ⟨_, rfl, wpAny_pure h⟩) hk))
end
section
variable {X : Cx}
def tRevT (te : TE) : TE := fun σ H Q => te σ H fun x H1 => ∃ a xs, x = .ref a ∧ H1 a = some (.tup xs) ∧ ∀ p, H1 p = none → Q (.ref p) (upd H1 p (.tup xs.reverse))
theorem pe_revT {e : Expr} {te : TE} {k : Nat} {p1 p2 p3 pos : Pos} (he : PE X e te) : PE X (.Subscript e (.Slice none none (some (.UnaryOp .USub (.Constant (.int 1) k p1) p2)) p3) pos) (tRevT te) := by
  refine ⟨fun pins s σ H Q I h => Subscript_ (thn (he.run pins s σ H _ I h) fun v s1 ⟨x, H1, I1, r1, a, xs, ex, hx, q⟩ => ?_)⟩
  subst ex
  cases r1
  have neg1 : PO X (some (.UnaryOp .USub (.Constant (.int 1) k p1) p2)) (tPart (tUn (rU fun i => .int (-i)) (tC (.int 1)))) := po_some (pe_un un_neg pe_int)
  refine wpAny_Slice (thn (po_none.run pins s1 σ H1 (fun o G => o = none ∧ G = H1) I1 ⟨rfl, rfl⟩) fun vl s2 ⟨o2, H2, I2, p2, z2, z3⟩ => ?_)
  subst z2 z3
  refine thn (po_none.run pins s2 σ H2 (fun o G => o = none ∧ G = H2) I2 ⟨rfl, rfl⟩) fun vu s3 ⟨o3, H3, I3, p3, z4, z5⟩ => ?_
  subst z4 z5
  refine thn (neg1.run pins s3 σ H3 (fun o G => o = some (-1) ∧ G = H3) I3 ⟨1, rfl, -1, rfl, rfl, rfl⟩) fun vs s4 ⟨o4, H4, I4, p4, z6, z7⟩ => ?_
  subst z6 z7
  cases p2
  cases p3
  have I5 : Inv X pins σ H4 { s4 with heap := s4.heap.push { cls := .type "slice", data := .fields #[.none, .none, vs] } } := I4.kept (t' := s4.toks) fun b ob q => Heap.get?_push_of_some _ q
  obtain ⟨its, r, ht, hz⟩ := I5.tuple (SqT.of hx)
  have hlen := r.length
  show wpAny (model X.prog X.w) X.A (subscriptTail e _ (.ref a) (.ref s4.heap.objs.size)) (EP X pins σ Q) X.xe _
  refine tail_any (ops := [.ref a, .ref s4.heap.objs.size]) ht.typeIs (PyProof.Rows.slot_tuple_getitem.lookup) ?_ (by with_unfolding_all rfl)
  refine getItem_tuple_back ht (Heap.IsSliceOf.new _ _ _ vs) p4 ?_ (by rw [List.size_toArray]; omega)
  refine ⟨.ref _, _, I5.laid (t' := s4.toks) (o := .tup xs.reverse) (fun b ob q => Heap.get?_push_of_some _ q) (Nat.le_refl _) ?_, rfl, q _ (I5.hok.fresh (Nat.le_refl _))⟩
  exact ⟨by rw [List.length_reverse]; exact hz, _, r.reverse, IsTup.new _ _⟩
end
end G


set_option Elab.async false
set_option linter.all false
set_option maxRecDepth 100000
set_option maxHeartbeats 4000000
set_option pp.deepTerms true
set_option pp.maxSteps 100000
set_option format.width 230
namespace G
open PySem PySem.Spec PyProof.Rows L2
local macro_rules | `(tactic| walk_at "rd") => `(tactic| try simp only [cxOf_K, tSeq, tIfS, tTest, tB, tCB, tCons, tNil, tC, tVar, tOp, tUn, tAndV, tOrV, tNotV, tAnd, tOr, tNot, tIf, tChain, tRet, tRetN, tAsg, gName, tDrop, tNext, tCallS, WE, rI0, rI, rU, L2.start, tYes, tLc, tFor, gTup, gCons, gNil, tPar, tPar3, tAug, ipI, tWidth, tCall, tMeth, tMake, tFld, tRows, tTable, sFld, rMulT, rSumT, gSub, tBM, rAppend, rSetL, rExtend, rSlL, rSlQ, tCol, Int.toNat_natCast,  tSl, tNoPart, tPart, tTup, tLst, tNever, itu_g, sDPut, tDNewK, tDNewN, tDispN, rSetN, rIxN, rInN, tGetN, rGetN, iKN, iIN, iRg3, iRng3, rGetL, tAugS, tNo, rCopyN, rRep,
  List.map_cons, List.map_nil, List.length_cons, List.length_nil, List.cons_append, List.nil_append, List.replicate, Nat.reduceAdd, Nat.reduceSub, Nat.zero_add, Nat.sub_self,
  List.getElem?_cons_zero, List.getElem?_cons_succ, List.set_cons_zero, List.set_cons_succ, wipe, Option.some.injEq, exists_eq_left', exists_eq_left, V.bl.injEq, V.int.injEq, ref_inj, ty_inj, if_true, if_false, Bool.false_eq_true, Bool.true_eq_false, exists_const, exists_and_left, true_and, and_true, List.cons.injEq,
  isB_int, isB_bool, isB_tuple, isB_list, isT_at, iSq, iRg1, iRg2, iZ2, iZ3, iEn])
local macro_rules | `(tactic| walk_at "r1") => `(tactic| try simp only [cxOf_K, tSeq, tIfS, tTest, tB, tCB, tCons, tNil, tC, tVar, tOp, tUn, tAndV, tOrV, tNotV, tAnd, tOr, tNot, tIf, tChain, tRet, tRetN, tAsg, gName, tDrop, tNext, tCallS, WE, rI0, rI, rU, L2.start, tYes, gTup, gCons, gNil, tPar, tPar3, tAug, ipI, tWidth, tCall, tMeth, tMake, tFld, tRows, tTable, sFld, rMulT, rSumT, gSub, tBM, rAppend, rSetL, rExtend, rSlL, rSlQ, tCol, Int.toNat_natCast,  tSl, tNoPart, tPart, tTup, tLst, tNever, itu_g, sDPut, tDNewK, tDNewN, tDispN, rSetN, rIxN, rInN, tGetN, rGetN, iKN, iIN, iRg3, iRng3, rGetL, tAugS, tNo, rCopyN, rRep,
  List.map_cons, List.map_nil, List.length_cons, List.length_nil, List.cons_append, List.nil_append, List.replicate, Nat.reduceAdd, Nat.reduceSub, Nat.zero_add, Nat.sub_self,
  List.getElem?_cons_zero, List.getElem?_cons_succ, List.set_cons_zero, List.set_cons_succ, wipe, Option.some.injEq, exists_eq_left', exists_eq_left, V.bl.injEq, V.int.injEq, ref_inj, ty_inj, if_true, if_false, Bool.false_eq_true, Bool.true_eq_false, exists_const, exists_and_left, true_and, and_true, List.cons.injEq,
  isB_int, isB_bool, isB_tuple, isB_list, isT_at, iSq, iRg1, iRg2, iZ2, iZ3, iEn])
local macro_rules | `(tactic| walk_at "r0") => `(tactic| try simp only [cxOf_K, tIfS, tTest, tB, tCB, tCons, tNil, tC, tVar, tOp, tUn, tAndV, tOrV, tNotV, tAnd, tOr, tNot, tIf, tChain, tRet, tRetN, tAsg, gName, tDrop, tNext, tCallS, WE, rI0, rI, rU, L2.start, tYes, gTup, gCons, gNil, tPar, tPar3, tAug, ipI, tWidth, tCall, tMeth, tMake, tFld, tRows, tTable, sFld, rMulT, rSumT, gSub, tBM, rAppend, rSetL, rExtend, rSlL, rSlQ, tCol, Int.toNat_natCast,  tSl, tNoPart, tPart, tTup, tLst, tNever, itu_g, sDPut, tDNewK, tDNewN, tDispN, rSetN, rIxN, rInN, tGetN, rGetN, iKN, iIN, iRg3, iRng3, rGetL, tAugS, tNo, rCopyN, rRep,
  List.map_cons, List.map_nil, List.length_cons, List.length_nil, List.cons_append, List.nil_append, List.replicate, Nat.reduceAdd, Nat.reduceSub, Nat.zero_add, Nat.sub_self,
  List.getElem?_cons_zero, List.getElem?_cons_succ, List.set_cons_zero, List.set_cons_succ, wipe, Option.some.injEq, exists_eq_left', exists_eq_left, V.bl.injEq, V.int.injEq, ref_inj, ty_inj, if_true, if_false, Bool.false_eq_true, Bool.true_eq_false, exists_const, exists_and_left, true_and, and_true, List.cons.injEq,
  isB_int, isB_bool, isB_tuple, isB_list, isT_at, iSq, iRg1, iRg2, iZ2, iZ3, iEn])
local macro_rules | `(tactic| walk_at "st") => `(tactic| ((try dsimp only); rw [tSeq_def]))
local macro_rules | `(tactic| walk_at "lp") => `(tactic| first | rw [tFor_def] | rw [tLc_def] | rw [tWhile_def])
local macro_rules | `(tactic| walk_at "ex") => `(tactic| simp only [List.cons.injEq, and_true, true_and, and_assoc, exists_and_left, exists_eq_left', exists_eq_left, exists_eq_right, exists_const, V.int.injEq, V.bl.injEq, ref_inj, Bool.not_true, Bool.not_false, Bool.false_eq_true, if_true, if_false, Bool.true_eq_false])
section
variable {P : Program} {w : World} {K : PySem.W.Frag} {mg : Str → Option Value} {base : Heap} {a : Ad}
/-! ### seams: states -/
/-- a row of zeros -/
def zeros (w : Nat) : List Int := List.replicate w 0
theorem pr_rows {H : Hp} {ts : List Addr} {n w : Nat} (h3 : Paired (RowAt H) ts (List.replicate n (List.replicate w 0))) : ts.length = n ∧ ∀ i, i < n → ∃ t, (ts.map V.ref)[i]? = some (.ref t) ∧ RowAt H t (zeros w) := by
  have hl : ts.length = n := by rw [h3.length, List.length_replicate]
  refine ⟨hl, fun i hi => ?_⟩
  have ha : ts[i]? = some (ts[i]'(by omega)) := List.getElem?_eq_getElem (by omega)
  obtain ⟨b, hb, q⟩ := paired_get h3 ha
  rw [List.getElem?_replicate, if_pos hi] at hb
  cases hb
  exact ⟨_, by rw [List.getElem?_map, ha]; rfl, q⟩
theorem atI_end {α : Type} {xs : List α} {v : α} (h : xs[xs.length - 1]? = some v) (h0 : 1 ≤ xs.length) : atI xs (-1) = some v := by
  unfold atI
  rw [ixN_neg1 h0]
  exact h
/-- ends_of(one, is_turned) -/
def spEo (CT : Addr) : Sp := fun vs H Q _ => ∃ (one : V) (b : Bool) (n w : Nat), vs = [one, .bl b] ∧ Tb CT H one (List.replicate n (List.replicate w 0)) ∧ 1 ≤ n ∧
  ∀ p f e H', Same H H' → H' p = some (.tup [.ref f, .ref e]) → RowAt H' f (zeros w) → RowAt H' e (zeros w) → Q (.ref p) H'
abbrev N_ends_of : List Str := ["piece", "is_turned", "rows"]
theorem ok_ends_of (D : Def K mg "ends_of" 28) (T : Txt K mg a) : CalX P w K mg base 1 "ends_of" (spEo a.CT) := by
  refine calx (N := N_ends_of) (ps := ["piece", "is_turned"]) D (by decide +kernel) (fun vs H Q E h => ?_) (fun _ _ _ _ _ _ us hl => match us, hl with | [_, _], _ => rfl) (fun f cdv A outer s H vs Q E hr nd tk pn h => ⟨_, (pss_cons (ps_set (i := 2) nd rfl (Or.inl rfl) (pe_tup (pa_cons (pe_ix (ixK (K := K) rfl) (pe_rows T.k.cl T.nR (pv 0)) pe_int (fun _ _ => rfl)) (pa_cons (pe_ix (ixK (K := K) rfl) (pe_rows T.k.cl T.nR (pv 0)) (pe_un un_neg pe_int) (fun _ _ => rfl)) pa_nil))))
      (pss_one (ps_ret (pe_ifExp (pt_val (pv 1)) (pe_revT (pv 2)) (pv 2))))), ?_⟩)
  · obtain ⟨_, _, _, _, rfl, _⟩ := h
    rfl
  · obtain ⟨one, b, n, wd, rfl, t, n1, q⟩ := h
    clear tk pn nd hr
    walk_at "rd"
    refine ⟨_, t, fun r2 ts2 g1 g2 => ?_⟩
    obtain ⟨hl, hr⟩ := pr_rows g2
    obtain ⟨x, hx, rx⟩ := hr 0 (by omega)
    refine ix_t g1 (atI_nat (k := 0) hx) ⟨_, t, fun r3 ts3 g3 g4 => ?_⟩
    obtain ⟨hl3, hr3⟩ := pr_rows g4
    obtain ⟨y, hy, ry⟩ := hr3 (n - 1) (by omega)
    refine ix_t g3 (atI_end (by rw [List.length_map, hl3]; exact hy) (by rw [List.length_map, hl3]; exact n1)) ⟨small' (by omega), fun p hp => ?_⟩
    have e1 : Same H (upd H p (.tup [.ref x, .ref y])) := same_new (Same.refl H) hp
    have hp1 : upd H p (.tup [.ref x, .ref y]) p = some (.tup [.ref x, .ref y]) := upd_same
    generalize upd H p (.tup [.ref x, .ref y]) = H1 at e1 hp1 ⊢
    cases b with
    | true =>
      rw [if_pos rfl]
      simp only [tRevT]
      walk_at "rd"
      refine ⟨_, hp1, fun p2 hp2 => ?_⟩
      have e2 := same_up (o := .tup [.ref x, .ref y].reverse) e1 hp2
      exact q p2 y x _ e2 upd_same (e2 _ _ ry) (e2 _ _ rx)
    | false =>
      rw [if_neg (by decide)]
      exact q p x y _ e1 hp1 (e1 _ _ rx) (e1 _ _ ry)
/-- seam(last, first, prices) -/
def spSeam : Sp := fun vs H Q _ => ∃ (la fi p : V) (ps : List Int) (w : Nat) (b : Bool), vs = [la, fi, p] ∧ (b = false → la = .non) ∧ (b = true → ∃ z, la = .ref z ∧ RowAt H z (zeros w)) ∧ (∃ f, fi = .ref f ∧ RowAt H f (zeros w)) ∧ PrAt H p ps ∧ w ≤ 4 ∧
  ∀ H', Same H H' → Q (.int 0) H'
abbrev N_seam : List Str := ["last", "first", "prices"]
theorem ok_seam (D : Def K mg "seam" 34) (T : Txt K mg a) (c_apart : CalX P w K mg base 1 "apart" spApart) : CalX P w K mg base 2 "seam" spSeam := by
  refine calx (N := N_seam) (ps := ["last", "first", "prices"]) D (by decide +kernel) (fun vs H Q E h => ?_) (fun _ _ _ _ _ _ us hl => match us, hl with | [_, _, _], _ => rfl) (fun f cdv A outer s H vs Q E hr nd tk pn h => ⟨_, (pss_one (ps_ret (pe_ifExp (pt_cmpR op_isN (pv 0) pe_non (nomark _)) pe_int (pe_cx c_apart hr (by decide) tk (pa_cons (pv 0) (pa_cons (pv 1) (pa_cons (pv 2) pa_nil))))))), ?_⟩)
  · obtain ⟨_, _, _, _, _, _, rfl, _⟩ := h
    rfl
  · obtain ⟨la, fi, p, ps, wd, b, rfl, hf, ht, ⟨fa, rfl, hfa⟩, hp, hw, q⟩ := h
    clear tk pn nd hr
    walk_at "rd"
    simp only [spApart]
    walk_at "ex"
    cases b with
    | false =>
      rw [hf rfl]
      exact q H (Same.refl H)
    | true =>
      obtain ⟨z, rfl, hz⟩ := ht rfl
      refine ⟨z, rfl, _, hz, _, hfa, _, hp, by unfold zeros; rw [List.length_replicate]; omega, fun z1 H1 h e => ?_⟩
      rw [h rfl]
      exact q H1 e
end
end G


set_option Elab.async false
set_option linter.all false
set_option maxRecDepth 100000
set_option maxHeartbeats 4000000
set_option pp.deepTerms true
set_option pp.maxSteps 100000
set_option format.width 230
namespace G
open PySem PySem.Spec PyProof.Rows L2
local macro_rules | `(tactic| walk_at "rd") => `(tactic| try simp only [cxOf_K, tSeq, tIfS, tTest, tB, tCB, tCons, tNil, tC, tVar, tOp, tUn, tAndV, tOrV, tNotV, tAnd, tOr, tNot, tIf, tChain, tRet, tRetN, tAsg, gName, tDrop, tNext, tCallS, WE, rI0, rI, rU, L2.start, tYes, tLc, tFor, gTup, gCons, gNil, tPar, tPar3, tAug, ipI, tWidth, tCall, tMeth, tMake, tFld, tRows, tTable, sFld, rMulT, rSumT, gSub, tBM, rAppend, rSetL, rExtend, rSlL, rSlQ, tCol, Int.toNat_natCast,  tSl, tNoPart, tPart, tTup, tLst, tNever, itu_g, sDPut, tDNewK, tDNewN, tDispN, rSetN, rIxN, rInN, tGetN, rGetN, iKN, iIN, iRg3, iRng3, rGetL, tAugS, tNo, rCopyN, rRep,
  List.map_cons, List.map_nil, List.length_cons, List.length_nil, List.cons_append, List.nil_append, List.replicate, Nat.reduceAdd, Nat.reduceSub, Nat.zero_add, Nat.sub_self,
  List.getElem?_cons_zero, List.getElem?_cons_succ, List.set_cons_zero, List.set_cons_succ, wipe, Option.some.injEq, exists_eq_left', exists_eq_left, V.bl.injEq, V.int.injEq, ref_inj, ty_inj, if_true, if_false, Bool.false_eq_true, Bool.true_eq_false, exists_const, exists_and_left, true_and, and_true, List.cons.injEq,
  isB_int, isB_bool, isB_tuple, isB_list, isT_at, iSq, iRg1, iRg2, iZ2, iZ3, iEn])
local macro_rules | `(tactic| walk_at "r1") => `(tactic| try simp only [cxOf_K, tSeq, tIfS, tTest, tB, tCB, tCons, tNil, tC, tVar, tOp, tUn, tAndV, tOrV, tNotV, tAnd, tOr, tNot, tIf, tChain, tRet, tRetN, tAsg, gName, tDrop, tNext, tCallS, WE, rI0, rI, rU, L2.start, tYes, gTup, gCons, gNil, tPar, tPar3, tAug, ipI, tWidth, tCall, tMeth, tMake, tFld, tRows, tTable, sFld, rMulT, rSumT, gSub, tBM, rAppend, rSetL, rExtend, rSlL, rSlQ, tCol, Int.toNat_natCast,  tSl, tNoPart, tPart, tTup, tLst, tNever, itu_g, sDPut, tDNewK, tDNewN, tDispN, rSetN, rIxN, rInN, tGetN, rGetN, iKN, iIN, iRg3, iRng3, rGetL, tAugS, tNo, rCopyN, rRep,
  List.map_cons, List.map_nil, List.length_cons, List.length_nil, List.cons_append, List.nil_append, List.replicate, Nat.reduceAdd, Nat.reduceSub, Nat.zero_add, Nat.sub_self,
  List.getElem?_cons_zero, List.getElem?_cons_succ, List.set_cons_zero, List.set_cons_succ, wipe, Option.some.injEq, exists_eq_left', exists_eq_left, V.bl.injEq, V.int.injEq, ref_inj, ty_inj, if_true, if_false, Bool.false_eq_true, Bool.true_eq_false, exists_const, exists_and_left, true_and, and_true, List.cons.injEq,
  isB_int, isB_bool, isB_tuple, isB_list, isT_at, iSq, iRg1, iRg2, iZ2, iZ3, iEn])
local macro_rules | `(tactic| walk_at "r0") => `(tactic| try simp only [cxOf_K, tIfS, tTest, tB, tCB, tCons, tNil, tC, tVar, tOp, tUn, tAndV, tOrV, tNotV, tAnd, tOr, tNot, tIf, tChain, tRet, tRetN, tAsg, gName, tDrop, tNext, tCallS, WE, rI0, rI, rU, L2.start, tYes, gTup, gCons, gNil, tPar, tPar3, tAug, ipI, tWidth, tCall, tMeth, tMake, tFld, tRows, tTable, sFld, rMulT, rSumT, gSub, tBM, rAppend, rSetL, rExtend, rSlL, rSlQ, tCol, Int.toNat_natCast,  tSl, tNoPart, tPart, tTup, tLst, tNever, itu_g, sDPut, tDNewK, tDNewN, tDispN, rSetN, rIxN, rInN, tGetN, rGetN, iKN, iIN, iRg3, iRng3, rGetL, tAugS, tNo, rCopyN, rRep,
  List.map_cons, List.map_nil, List.length_cons, List.length_nil, List.cons_append, List.nil_append, List.replicate, Nat.reduceAdd, Nat.reduceSub, Nat.zero_add, Nat.sub_self,
  List.getElem?_cons_zero, List.getElem?_cons_succ, List.set_cons_zero, List.set_cons_succ, wipe, Option.some.injEq, exists_eq_left', exists_eq_left, V.bl.injEq, V.int.injEq, ref_inj, ty_inj, if_true, if_false, Bool.false_eq_true, Bool.true_eq_false, exists_const, exists_and_left, true_and, and_true, List.cons.injEq,
  isB_int, isB_bool, isB_tuple, isB_list, isT_at, iSq, iRg1, iRg2, iZ2, iZ3, iEn])
local macro_rules | `(tactic| walk_at "st") => `(tactic| ((try dsimp only); rw [tSeq_def]))
local macro_rules | `(tactic| walk_at "lp") => `(tactic| first | rw [tFor_def] | rw [tLc_def] | rw [tWhile_def])
local macro_rules | `(tactic| walk_at "ex") => `(tactic| simp only [List.cons.injEq, and_true, true_and, and_assoc, exists_and_left, exists_eq_left', exists_eq_left, exists_eq_right, exists_const, V.int.injEq, V.bl.injEq, ref_inj, Bool.not_true, Bool.not_false, Bool.false_eq_true, if_true, if_false, Bool.true_eq_false])
section
variable {P : Program} {w : World} {K : PySem.W.Frag} {mg : Str → Option Value} {base : Heap} {a : Ad}
/-! ### seams: the steps from a state -/
/-- left, last is a row (of zeros) -/
abbrev StS := List Int × Bool
def TupK (H H' : Hp) : Prop := ∀ b xs, H b = some (.tup xs) → H' b = some (.tup xs)
theorem tupS {H H' : Hp} (e : Same H H') : TupK H H' := fun b xs h => e _ _ h
theorem tupK_lst {H : Hp} {L : Addr} {l : List V} {o : HO} (h : H L = some (.lst l)) : TupK H (upd H L o) := fun b xs hb => by
  rw [upd_ne (fun e => by rw [e, h] at hb; exact nomatch hb)]
  exact hb
def LaAt (w : Nat) (H : Hp) (v : V) (b : Bool) : Prop := (b = false → v = .non) ∧ (b = true → ∃ z, v = .ref z ∧ RowAt H z (zeros w))
theorem LaAt.k {w : Nat} {H H' : Hp} {v : V} {b : Bool} (h : LaAt w H v b) (e : TupK H H') : LaAt w H' v b := ⟨h.1, fun hb => let ⟨z, e1, e2⟩ := h.2 hb; ⟨z, e1, e _ _ e2⟩⟩
def StAt (w : Nat) (H : Hp) (p : Addr) (s : StS) : Prop := ∃ lt lv, H p = some (.tup [.ref lt, lv]) ∧ RowAt H lt s.1 ∧ LaAt w H lv s.2
theorem StAt.k {w : Nat} {H H' : Hp} {p : Addr} {s : StS} (h : StAt w H p s) (e : TupK H H') : StAt w H' p s := let ⟨lt, lv, h1, h2, h3⟩ := h; ⟨lt, lv, e _ _ h1, e _ _ h2, h3.k e⟩
def StepAt (w : Nat) (H : Hp) (t : Addr) (s : StS) : Prop := ∃ p fi, H t = some (.tup [.ref p, .ref fi]) ∧ StAt w H p s ∧ RowAt H fi (zeros w)
theorem StepAt.k {w : Nat} {H H' : Hp} {p : Addr} {s : StS} (h : StepAt w H p s) (e : TupK H H') : StepAt w H' p s := let ⟨lt, lv, h1, h2, h3⟩ := h; ⟨lt, lv, e _ _ h1, h2.k e, e _ _ h3⟩
def stepOne (l : List Int) (i : Int) : List StS := [(l.filter fun x => !decide (x = i), true), (l.filter fun x => !decide (x = i), true)]
def stepsOf (l m : List Int) : List StS := m.flatMap (stepOne l)
theorem stepsOf_take {l : List Int} {j : Nat} (h : j < l.length) : stepsOf l (l.take (j + 1)) = stepsOf l (l.take j) ++ stepOne l (l.getD j 0) := by
  unfold stepsOf
  rw [List.take_add_one, List.flatMap_append, List.getElem?_eq_getElem h, List.getD_eq_getElem?_getD, List.getElem?_eq_getElem h]
  simp
theorem stepsOf_len (l m : List Int) : (stepsOf l m).length = 2 * m.length := by
  unfold stepsOf
  induction m with
  | nil => rfl
  | cons x m ih => rw [List.flatMap_cons, List.length_append, ih, List.length_cons]; unfold stepOne; simp; omega
/-- the list found, so far -/
def FdAt (w : Nat) (H0 : Hp) (L : Addr) (acc : List StS) (H' : Hp) : Prop := Same H0 H' ∧ ∃ ts : List Addr, H' L = some (.lst (ts.map V.ref)) ∧ Paired (StepAt w H') ts acc
theorem FdAt.same {w : Nat} {H0 H1 H2 : Hp} {L : Addr} {acc : List StS} (h : FdAt w H0 L acc H1) (e : Same H1 H2) : FdAt w H0 L acc H2 := by
  obtain ⟨e1, ts, h1, h2⟩ := h
  exact ⟨e1.trans e, ts, e _ _ h1, Paired.imp2 h2 fun _ _ z => z.k (tupS e)⟩
theorem FdAt.push {w : Nat} {H0 H1 : Hp} {L T : Addr} {acc : List StS} {x : StS} {l : List V} (h : FdAt w H0 L acc H1) (hL : H0 L = none) (hl : H1 L = some (.lst l)) (hT : StepAt w H1 T x) : FdAt w H0 L (acc ++ [x]) (upd H1 L (.lst (l ++ [.ref T]))) := by
  obtain ⟨e1, ts, h1, h2⟩ := h
  rw [h1] at hl
  cases hl
  have k : TupK H1 (upd H1 L (.lst (ts.map V.ref ++ [.ref T]))) := tupK_lst h1
  exact ⟨SameX.out e1 (SameX.upd (SameX.refl L H1)) hL, ts ++ [T], by rw [upd_same, List.map_append]; rfl, paired_snoc (Paired.imp2 h2 fun _ _ z => z.k k) (hT.k k)⟩
theorem int_eq {i j : Int} : decide (V.int i = V.int j) = decide (i = j) := by rw [Bool.eq_iff_iff]; simp
theorem kept_filter {α : Type} {xs : List Int} {p : Int → Bool} {f : Int → α} : (kept (fun i => p (xs.getD i 0)) xs.length).map (fun i => f (xs.getD i 0)) = (xs.filter p).map f := by
  have key : ∀ n, n ≤ xs.length → (kept (fun i => p (xs.getD i 0)) n).map (fun i => f (xs.getD i 0)) = ((xs.take n).filter p).map f := by
    intro n
    induction n with
    | zero => intro _; rfl
    | succ n ih =>
      intro h
      rw [kept_succ, List.map_append, ih (by omega), List.take_add_one, List.filter_append, List.map_append, List.getElem?_eq_getElem (by omega)]
      congr 1
      have e : xs.getD n 0 = xs[n] := by rw [List.getD_eq_getElem?_getD, List.getElem?_eq_getElem (by omega)]; rfl
      simp only [e, Option.toList_some]
      by_cases hp : p xs[n] = true
      · rw [if_pos hp, List.filter_cons, if_pos hp]
        simp only [List.map_cons, List.map_nil, List.filter_nil, e]
      · rw [if_neg hp, List.filter_cons, if_neg hp]
        rfl
  have h := key xs.length (Nat.le_refl _)
  rw [List.take_length] at h
  exact h
theorem atI_z {α : Type} {xs : List α} {i : Int} {v : α} (h0 : 0 ≤ i) (h : xs[i.toNat]? = some v) : atI xs i = some v := by
  have e : i = ((i.toNat : Nat) : Int) := by omega
  rw [e]
  exact atI_nat h
/-- steps_from(pieces, state) -/
def spSf (CT : Addr) : Sp := fun vs H Q _ => ∃ (l st : Addr) (k : Nat) (one : V) (n w : Nat) (s : StS), vs = [.ref l, .ref st] ∧ PcAs H l (List.replicate k one) ∧ k ≤ 6 ∧ Tb CT H one (List.replicate n (List.replicate w 0)) ∧ 1 ≤ n ∧ StAt w H st s ∧ s.1.length ≤ 6 ∧ (∀ i ∈ s.1, 0 ≤ i ∧ i < (k : Nat)) ∧
  ∀ L H', FdAt w H L (stepsOf s.1 s.1) H' → H L = none → Q (.ref L) H'
abbrev N_steps_from : List Str := ["pieces", "state", "left", "last", "found", "index", "rest", "is_turned", "first", "end", "late"]
theorem ok_steps_from (D : Def K mg "steps_from" 32) (T : Txt K mg a) (c_ends_of : CalX P w K mg base 1 "ends_of" (spEo a.CT)) : CalX P w K mg base 2 "steps_from" (spSf a.CT) := by
  refine calx (N := N_steps_from) (ps := ["pieces", "state"]) D (by decide +kernel) (fun vs H Q E h => ?_) (fun _ _ _ _ _ _ us hl => match us, hl with | [_, _], _ => rfl) (fun f cdv A outer s H vs Q E hr nd tk pn h => ⟨_, (pss_cons (ps_asg (pv 1) (pg_tupK (K := K) (n := 2) rfl rfl (pgs_cons (pg_name (i := 2) nd rfl (Or.inl rfl)) (pgs_cons (pg_name (i := 3) nd rfl (Or.inl rfl)) pgs_nil))))
      (pss_cons (ps_set (i := 4) nd rfl (Or.inl rfl) (pe_lst pa_nil))
      (pss_cons (ps_for pn rfl (pi_sq (pv 2)) (pg_name (i := 5) nd rfl (Or.inr rfl))
      (pss_cons (ps_set (i := 6) nd rfl (Or.inl rfl) (pe_callTy call_tuple_of (by rfl) T.tuple bi_tuple (pa_cons (pe_lc (own := [("late", 10)]) rfl nd (pi_sq (pv 2)) (blkOk_by (own := [("late", 10)]) (N := N_steps_from) (sc := defScope (top 32)) (by decide +kernel)) (fun _ _ _ _ _ => (pg_name (i := 10) nd rfl (Or.inl rfl))) (fun _ _ _ _ _ => (pts_one (pt_cmpR op_ne (pv 10) (pv 5) (nomark _)))) (fun _ _ _ _ _ => (pv 10))) pa_nil)))
      (pss_one (ps_for pn rfl (pi_sq (pe_tup (pa_cons pe_bl (pa_cons pe_bl pa_nil)))) (pg_name (i := 7) nd rfl (Or.inl rfl))
      (pss_cons (ps_asg (pe_cx c_ends_of hr (by decide) tk (pa_cons (pe_ix (ixK (K := K) rfl) (pv 0) (pv 5) (fun _ _ => rfl)) (pa_cons (pv 7) pa_nil))) (pg_tupK (K := K) (n := 2) rfl rfl (pgs_cons (pg_name (i := 8) nd rfl (Or.inl rfl)) (pgs_cons (pg_name (i := 9) nd rfl (Or.inl rfl)) pgs_nil))))
      (pss_one (ps_expr (pe_bm PySem.F.plainAttrs_list PySem.F.slot_list_append PySem.F.type_list_append mt_append (pv 4) (pa_cons (pe_tup (pa_cons (pe_tup (pa_cons (pv 6) (pa_cons (pv 9) pa_nil))) (pa_cons (pv 8) pa_nil))) pa_nil)))))))))
      (pss_one (ps_ret (pv 4)))))), ?_⟩)
  · obtain ⟨_, _, _, _, _, _, _, rfl, _⟩ := h
    rfl
  · obtain ⟨l, st, k, one, n, wd, s, rfl, hl, k6, tb, n1, ⟨lt, lv, hst, hlt, hla⟩, hs6, hsk, q⟩ := h
    clear tk pn nd hr
    walk_at "st"
    walk_at "r0"
    refine un2s hst ?_
    walk_at "st"
    walk_at "r0"
    refine ⟨by decide, fun L hL => ?_⟩
    have f0 : FdAt wd H L (stepsOf s.1 (s.1.take 0)) (upd H L (.lst [])) := ⟨same_new (Same.refl H) hL, [], upd_same, .nil⟩
    generalize upd H L (.lst []) = H1 at f0 ⊢
    walk_at "st"
    walk_at "r0"
    walk_at "lp"
    walk_at "r0"
    have hlt1 := f0.1 _ _ hlt
    refine ⟨false, _, sqA_t hlt1, ?_⟩
    refine forB (fun j σ H' => FdAt wd H L (stepsOf s.1 (s.1.take j)) H' ∧ ∃ v5 v6 v7 v8 v9 v10, σ = [some (.ref l), some (.ref st), some (.ref lt), some lv, some (.ref L), v5, v6, v7, v8, v9, v10]) ⟨f0, none, none, none, none, none, none, rfl⟩ (fun j σ H' _ h => sqA_t (h.1.1 _ _ hlt)) ?_ ?_
    · rintro j v σ H2 H3 Nx hj ⟨f2, v5, v6, v7, v8, v9, v10, rfl⟩ y nx
      simp only [yV] at y
      obtain ⟨rfl, rfl⟩ := y
      rw [List.length_map] at hj
      have hlt3 := f2.1 _ _ hlt
      have hg : (s.1.map V.int).getD j .non = .int (s.1.getD j 0) := by
        rw [List.getD_eq_getElem?_getD, List.getElem?_map, List.getElem?_eq_getElem hj, List.getD_eq_getElem?_getD, List.getElem?_eq_getElem hj]
        rfl
      rw [hg]
      walk_at "st"
      walk_at "r0"
      walk_at "lp"
      walk_at "r0"
      refine ⟨false, _, sqA_t hlt3, fun D1 hD1 => ?_⟩
      refine lcV (fun i => !decide (s.1.getD i 0 = s.1.getD j 0)) (fun i => .int (s.1.getD i 0)) hD1 (by simp; omega) (fun H' e => sqA_t (e _ _ hlt3)) (fun i v H1 H2 acc Nx hi e1 ha y k1 k2 => ?_) (fun H4 e4 h => ?_)
      · simp only [yV] at y
        obtain ⟨rfl, rfl⟩ := y
        have hgi : (s.1.map V.int).getD i .non = .int (s.1.getD i 0) := by
          rw [List.length_map] at hi
          rw [List.getD_eq_getElem?_getD, List.getElem?_map, List.getElem?_eq_getElem hi, List.getD_eq_getElem?_getD, List.getElem?_eq_getElem hi]
          rfl
        rw [hgi]
        refine ⟨rfl, _, rfl, ?_⟩
        rw [int_eq]
        cases hd : decide (s.1.getD i 0 = s.1.getD j 0) with
        | true =>
          rw [if_neg (by decide)]
          exact k2 (by rw [hd]; rfl) _ (Same.refl _)
        | false =>
          rw [if_pos (by decide)]
          exact k1 (by rw [hd]; rfl) _ (Same.refl _)
      · rw [show (s.1.map V.int).length = s.1.length by simp, kept_filter (p := fun x => !decide (x = s.1.getD j 0)) (f := V.int)] at h
        have e4' := e4
        refine ⟨_, .inl ⟨SqL.of h, fun rt hrt => ?_⟩⟩
        have f4 := (f2.same e4).same (same_new (o := .tup ((s.1.filter fun x => !decide (x = s.1.getD j 0)).map V.int)) (Same.refl H4) hrt)
        have hrt1 : upd H4 rt (.tup ((s.1.filter fun x => !decide (x = s.1.getD j 0)).map V.int)) rt = some (.tup ((s.1.filter fun x => !decide (x = s.1.getD j 0)).map V.int)) := upd_same
        generalize upd H4 rt _ = H5 at f4 hrt1 ⊢
        walk_at "r0"
        walk_at "lp"
        walk_at "r0"
        refine ⟨by decide, fun bt hbt => ⟨false, _, sqA_t upd_same, ?_⟩⟩
        have f5 := f4.same (same_new (o := .tup [.bl false, .bl true]) (Same.refl H5) hbt)
        have hbt1 : upd H5 bt (.tup [.bl false, .bl true]) bt = some (.tup [.bl false, .bl true]) := upd_same
        have hrt5 := same_new (o := .tup [.bl false, .bl true]) (Same.refl H5) hbt _ _ hrt1
        generalize upd H5 bt _ = H6 at f5 hbt1 hrt5 ⊢
        refine forB (fun m σ H' => FdAt wd H L (stepsOf s.1 (s.1.take j) ++ (stepOne s.1 (s.1.getD j 0)).take m) H' ∧ TupK H6 H' ∧ ∃ v7 v8 v9 v10, σ = [some (.ref l), some (.ref st), some (.ref lt), some lv, some (.ref L), some (.int (s.1.getD j 0)), some (.ref rt), v7, v8, v9, v10]) ⟨by simpa using f5, fun _ _ h => h, _, _, _, _, rfl⟩ (fun m σ H' _ h => sqA_t (h.2.1 _ _ hbt1)) ?_ ?_
        · rintro m v σ H7 H8 Nx2 hm ⟨f7, e7, v7, v8, v9, v10, rfl⟩ y nx2
          simp only [yV] at y
          obtain ⟨rfl, rfl⟩ := y
          have hbv : ∃ b, [V.bl false, V.bl true].getD m .non = .bl b ∧ (stepOne s.1 (s.1.getD j 0))[m]? = some (s.1.filter fun x => !decide (x = s.1.getD j 0), true) := by
            match m, hm with
            | 0, _ => exact ⟨false, rfl, rfl⟩
            | 1, _ => exact ⟨true, rfl, rfl⟩
          obtain ⟨b, hb, hs1⟩ := hbv
          rw [hb]
          obtain ⟨z0, z1⟩ := hsk (s.1.getD j 0) (getD_mem hj)
          walk_at "st"
          walk_at "r0"
          refine ix_pc (hl.same f7.1) (atI_z (v := one) z0 (by rw [List.getElem?_replicate, if_pos (by omega)])) ?_
          simp only [spEo]
          refine ⟨one, b, n, wd, rfl, tb.same f7.1, n1, fun p fi en H9 e9 hp hfi hen => ?_⟩
          have f9 := f7.same e9
          have k9 : TupK H6 H9 := fun c xs h => e9 _ _ (e7 c xs h)
          have hrt9 := k9 _ _ hrt5
          obtain ⟨_, ts9, hL9, _⟩ := id f9
          have hlen : ts9.length ≤ 100 := by
            obtain ⟨_, ts, hl', hpp⟩ := id f9
            rw [hL9] at hl'
            have e : ts9.map V.ref = ts.map V.ref := by injection (Option.some.inj hl')
            have hle := hpp.length
            rw [List.length_append, stepsOf_len, List.length_take, List.length_take] at hle
            have : ts9.length = ts.length := by have := congrArg List.length e; simpa using this
            have : (stepOne s.1 (s.1.getD j 0)).length = 2 := rfl
            omega
          refine un2 hp ⟨tyL hL9, small' (by omega), fun p1 hp1 => ⟨small' (by omega), fun p2 hp2 => ?_⟩⟩
          have e10 : Same H9 (upd H9 p1 (.tup [.ref rt, .ref en])) := same_new (Same.refl H9) hp1
          have hp11 : upd H9 p1 (.tup [.ref rt, .ref en]) p1 = some (.tup [.ref rt, .ref en]) := upd_same
          generalize upd H9 p1 (.tup [.ref rt, .ref en]) = H10 at e10 hp11 hp2 ⊢
          have e11 : Same H10 (upd H10 p2 (.tup [.ref p1, .ref fi])) := same_new (Same.refl H10) hp2
          have hp21 : upd H10 p2 (.tup [.ref p1, .ref fi]) p2 = some (.tup [.ref p1, .ref fi]) := upd_same
          generalize upd H10 p2 (.tup [.ref p1, .ref fi]) = H11 at e11 hp21 ⊢
          have e911 := e10.trans e11
          have hL11 := e911 _ _ hL9
          have hT : StepAt wd H11 p2 (s.1.filter fun x => !decide (x = s.1.getD j 0), true) := ⟨p1, fi, hp21, ⟨rt, .ref en, e11 _ _ hp11, e911 _ _ hrt9, fun h => Bool.noConfusion h, fun _ => ⟨en, rfl, e911 _ _ hen⟩⟩, e911 _ _ hfi⟩
          refine ⟨_, hL11, small (by rw [List.length_map]; omega), ?_⟩
          refine nx2 _ _ ⟨?_, fun c xs h => tupK_lst hL11 c xs (e911 _ _ (k9 c xs h)), _, _, _, _, rfl⟩
          have f12 := (f9.same e911).push hL hL11 hT
          rw [List.take_add_one, hs1, ← List.append_assoc]
          exact f12
        · rintro σ H7 ⟨f7, e7, v7, v8, v9, v10, rfl⟩
          refine nx _ _ ⟨?_, _, _, _, _, _, _, rfl⟩
          rw [stepsOf_take hj]
          exact f7
    · rintro σ H2 ⟨f2, v5, v6, v7, v8, v9, v10, rfl⟩
      walk_at "rd"
      rw [List.length_map, List.take_length] at f2
      exact q L H2 f2 hL
end
end G


set_option Elab.async false
set_option linter.all false
set_option maxRecDepth 100000
set_option maxHeartbeats 4000000
/-! The breadth-first line of states: plain facts. -/
namespace G
open PySem PySem.Spec PyProof.Rows L2
def rgI (k : Nat) : List Int := (List.range k).map Int.ofNat
theorem rgI_nodup (k : Nat) : (rgI k).Nodup := by
  unfold rgI
  refine List.Pairwise.map _ (fun a b h => ?_) (List.nodup_range)
  intro e
  exact h (Int.ofNat.inj e)
theorem rgI_len (k : Nat) : (rgI k).length = k := by simp [rgI]
theorem rgI_mem {k : Nat} {i : Int} (h : i ∈ rgI k) : 0 ≤ i ∧ i < (k : Nat) := by
  obtain ⟨j, hj, rfl⟩ := List.mem_map.mp h
  have := List.mem_range.mp hj
  constructor <;> simp <;> omega
theorem len_le_of {α : Type} [DecidableEq α] : ∀ {l m : List α}, l.Nodup → (∀ x ∈ l, x ∈ m) → l.length ≤ m.length
  | [], m, _, _ => Nat.zero_le _
  | x :: l, m, nd, h => by
    have hx : x ∈ m := h x (List.mem_cons_self ..)
    obtain ⟨h1, h2⟩ := List.nodup_cons.mp nd
    have ih := len_le_of (m := m.erase x) h2 fun y hy => (List.mem_erase_of_ne (fun e => h1 (by rw [← e]; exact hy))).mpr (h y (List.mem_cons_of_mem _ hy))
    rw [List.length_erase_of_mem hx] at ih
    have : 0 < m.length := List.length_pos_of_mem hx
    rw [List.length_cons]
    omega
def subs : List Int → List (List Int)
  | [] => [[]]
  | x :: xs => (subs xs).map (x :: ·) ++ subs xs
theorem subs_len : ∀ xs : List Int, (subs xs).length = 2 ^ xs.length
  | [] => rfl
  | x :: xs => by
    rw [subs, List.length_append, List.length_map, subs_len xs, List.length_cons, Nat.pow_succ]
    omega
theorem subs_mem : ∀ {l xs : List Int}, l.Sublist xs → l ∈ subs xs
  | _, _, .slnil => by simp [subs]
  | _, _, .cons _ h => List.mem_append_right _ (subs_mem h)
  | _, _, .cons₂ _ h => List.mem_append_left _ (List.mem_map_of_mem (subs_mem h))
/-- the states that may stand in the line -/
def cand (k : Nat) : List StS := (subs (rgI k)).map (fun l => (l, false)) ++ (subs (rgI k)).map fun l => (l, true)
theorem cand_mem {k : Nat} {s : StS} (h : s.1.Sublist (rgI k)) : s ∈ cand k := by
  obtain ⟨l, b⟩ := s
  cases b with
  | false => exact List.mem_append_left _ (List.mem_map.mpr ⟨l, subs_mem h, rfl⟩)
  | true => exact List.mem_append_right _ (List.mem_map.mpr ⟨l, subs_mem h, rfl⟩)
theorem cand_len (k : Nat) : (cand k).length = 2 * 2 ^ k := by
  unfold cand
  rw [List.length_append, List.length_map, List.length_map, subs_len, rgI_len]
  omega
/-- the next state, with the index i used -/
def nxt (s : StS) (i : Int) : StS := (s.1.filter fun x => !decide (x = i), true)
theorem nxt_sub {s : StS} {k : Nat} (i : Int) (h : s.1.Sublist (rgI k)) : (nxt s i).1.Sublist (rgI k) := List.Sublist.trans (List.filter_sublist ..) h
theorem nxt_len {l : List Int} (nd : l.Nodup) {i : Int} (hi : i ∈ l) : (l.filter fun x => !decide (x = i)).length + 1 = l.length := by
  induction l with
  | nil => exact nomatch hi
  | cons x l ih =>
    obtain ⟨h1, h2⟩ := List.nodup_cons.mp nd
    by_cases e : x = i
    · subst e
      rw [List.filter_cons, if_neg (by simp), List.filter_eq_self.mpr, List.length_cons]
      intro y hy
      have : y ≠ x := fun z => h1 (z ▸ hy)
      simp [this]
    · rcases List.mem_cons.mp hi with z | z
      · exact absurd z.symm e
      · rw [List.filter_cons, if_pos (by simp [e]), List.length_cons, List.length_cons, ih h2 z]
theorem stepsOf_mem {s x : StS} : x ∈ stepsOf s.1 s.1 ↔ ∃ i ∈ s.1, x = nxt s i := by
  unfold stepsOf stepOne nxt
  simp [List.mem_flatMap]
/-- the line, at a place: distinct states, sizes going down, the states ahead of the place have their followers -/
structure Bfs (k at_ : Nat) (L : List StS) : Prop where
  nd : L.Nodup
  sub : ∀ s ∈ L, s.1.Sublist (rgI k)
  dn : L.Pairwise fun x y => y.1.length ≤ x.1.length
  cl : ∀ i s, i < at_ → L[i]? = some s → ∀ x ∈ stepsOf s.1 s.1, x ∈ L
  lo : ∀ s, L[at_]? = some s → ∀ x ∈ L, s.1.length ≤ x.1.length + 1
  beg : (rgI k, false) ∈ L
theorem Bfs.len {k at_ : Nat} {L : List StS} (b : Bfs k at_ L) (h : k ≤ 6) : L.length ≤ 128 := by
  have h1 := len_le_of b.nd fun s hs => cand_mem (b.sub s hs)
  rw [cand_len] at h1
  have : 2 ^ k ≤ 2 ^ 6 := Nat.pow_le_pow_right (by decide) h
  omega
theorem Bfs.new (k : Nat) : Bfs k 0 [(rgI k, false)] where
  nd := by simp
  sub := fun s hs => by
    rw [List.mem_singleton] at hs
    subst hs
    exact List.Sublist.refl _
  dn := by simp
  cl := fun i s h => absurd h (Nat.not_lt_zero _)
  lo := fun s h x hx => by
    cases h
    rw [List.mem_singleton] at hx
    subst hx
    omega
  beg := List.mem_singleton.mpr rfl
/-- one state more at the end -/
theorem Bfs.add {k at_ : Nat} {L : List StS} {s x : StS} (b : Bfs k at_ L) (hs : L[at_]? = some s) (hx : x ∈ stepsOf s.1 s.1) (hn : x ∉ L) : Bfs k at_ (L ++ [x]) := by
  obtain ⟨i, hi, rfl⟩ := stepsOf_mem.mp hx
  have hsL : s ∈ L := List.mem_of_getElem? hs
  have hl : (nxt s i).1.length + 1 = s.1.length := nxt_len ((rgI_nodup k).sublist (b.sub s hsL)) hi
  have lt : at_ < L.length := (List.getElem?_eq_some_iff.mp hs).1
  refine ⟨?_, ?_, ?_, ?_, ?_, List.mem_append_left _ b.beg⟩
  · rw [List.nodup_append]
    refine ⟨b.nd, by simp, fun y hy z hz => ?_⟩
    rw [List.mem_singleton] at hz
    subst hz
    exact fun e => hn (e ▸ hy)
  · intro y hy
    rcases List.mem_append.mp hy with hy | hy
    · exact b.sub y hy
    · rw [List.mem_singleton] at hy
      subst hy
      exact nxt_sub i (b.sub s hsL)
  · rw [List.pairwise_append]
    refine ⟨b.dn, by simp, fun y hy z hz => ?_⟩
    rw [List.mem_singleton] at hz
    subst hz
    have := b.lo s hs y hy
    omega
  · intro j t hj ht y hy
    rw [List.getElem?_append_left (by omega)] at ht
    exact List.mem_append_left _ (b.cl j t hj ht y hy)
  · intro t ht y hy
    rw [List.getElem?_append_left lt] at ht
    rw [hs] at ht
    cases ht
    rcases List.mem_append.mp hy with hy | hy
    · exact b.lo _ hs y hy
    · rw [List.mem_singleton] at hy
      subst hy
      omega
/-- the next place -/
theorem Bfs.next {k at_ : Nat} {L : List StS} {s : StS} (b : Bfs k at_ L) (hs : L[at_]? = some s) (h : ∀ x ∈ stepsOf s.1 s.1, x ∈ L) : Bfs k (at_ + 1) L := by
  refine ⟨b.nd, b.sub, b.dn, fun i t hi ht => ?_, fun t ht y hy => ?_, b.beg⟩
  · by_cases e : i = at_
    · subst e
      rw [hs] at ht
      cases ht
      exact h
    · exact b.cl i t (by omega) ht
  · have h1 := b.lo s hs y hy
    obtain ⟨l1, e1⟩ := List.getElem?_eq_some_iff.mp hs
    obtain ⟨l2, e2⟩ := List.getElem?_eq_some_iff.mp ht
    have h2 := List.pairwise_iff_getElem.mp b.dn at_ (at_ + 1) l1 l2 (Nat.lt_succ_self _)
    rw [e1, e2] at h2
    omega
/-- at the end: a state's followers stand behind it -/
theorem Bfs.after {k : Nat} {L : List StS} (b : Bfs k L.length L) {i : Nat} {s x : StS} (hs : L[i]? = some s) (hx : x ∈ stepsOf s.1 s.1) : ∃ j, i < j ∧ L[j]? = some x := by
  obtain ⟨li, e1⟩ := List.getElem?_eq_some_iff.mp hs
  have hm := b.cl i s li hs x hx
  obtain ⟨j, hj⟩ := List.getElem?_of_mem hm
  obtain ⟨lj, e2⟩ := List.getElem?_eq_some_iff.mp hj
  refine ⟨j, ?_, hj⟩
  obtain ⟨y, hy, rfl⟩ := stepsOf_mem.mp hx
  have hl : (nxt s y).1.length + 1 = s.1.length := nxt_len ((rgI_nodup k).sublist (b.sub s (List.mem_of_getElem? hs))) hy
  rcases Nat.lt_trichotomy i j with h | h | h
  · exact h
  · subst h
    rw [e1] at e2
    rw [← e2] at hl
    omega
  · have h2 := List.pairwise_iff_getElem.mp b.dn j i lj li h
    rw [e1, e2] at h2
    omega
end G


set_option Elab.async false
set_option linter.all false
set_option maxRecDepth 100000
set_option maxHeartbeats 4000000
set_option pp.deepTerms true
set_option pp.maxSteps 100000
set_option format.width 230
namespace G
open PySem PySem.Spec PyProof.Rows L2
local macro_rules | `(tactic| walk_at "rd") => `(tactic| try simp only [cxOf_K, tSeq, tIfS, tTest, tB, tCB, tCons, tNil, tC, tVar, tOp, tUn, tAndV, tOrV, tNotV, tAnd, tOr, tNot, tIf, tChain, tRet, tRetN, tAsg, gName, tDrop, tNext, tCallS, WE, rI0, rI, rU, L2.start, tYes, tLc, tFor, gTup, gCons, gNil, tPar, tPar3, tAug, ipI, tWidth, tCall, tMeth, tMake, tFld, tRows, tTable, sFld, rMulT, rSumT, gSub, tBM, rAppend, rSetL, rExtend, rSlL, rSlQ, tCol, Int.toNat_natCast,  tSl, tNoPart, tPart, tTup, tLst, tNever, itu_g, sDPut, tDNewK, tDNewN, tDispN, rSetN, rIxN, rInN, tGetN, rGetN, iKN, iIN, iRg3, iRng3, rGetL, tAugS, tNo, rCopyN, rRep,
  List.map_cons, List.map_nil, List.length_cons, List.length_nil, List.cons_append, List.nil_append, List.replicate, Nat.reduceAdd, Nat.reduceSub, Nat.zero_add, Nat.sub_self,
  List.getElem?_cons_zero, List.getElem?_cons_succ, List.set_cons_zero, List.set_cons_succ, wipe, Option.some.injEq, exists_eq_left', exists_eq_left, V.bl.injEq, V.int.injEq, ref_inj, ty_inj, if_true, if_false, Bool.false_eq_true, Bool.true_eq_false, exists_const, exists_and_left, true_and, and_true, List.cons.injEq,
  isB_int, isB_bool, isB_tuple, isB_list, isT_at, iSq, iRg1, iRg2, iZ2, iZ3, iEn])
local macro_rules | `(tactic| walk_at "r1") => `(tactic| try simp only [cxOf_K, tSeq, tIfS, tTest, tB, tCB, tCons, tNil, tC, tVar, tOp, tUn, tAndV, tOrV, tNotV, tAnd, tOr, tNot, tIf, tChain, tRet, tRetN, tAsg, gName, tDrop, tNext, tCallS, WE, rI0, rI, rU, L2.start, tYes, gTup, gCons, gNil, tPar, tPar3, tAug, ipI, tWidth, tCall, tMeth, tMake, tFld, tRows, tTable, sFld, rMulT, rSumT, gSub, tBM, rAppend, rSetL, rExtend, rSlL, rSlQ, tCol, Int.toNat_natCast,  tSl, tNoPart, tPart, tTup, tLst, tNever, itu_g, sDPut, tDNewK, tDNewN, tDispN, rSetN, rIxN, rInN, tGetN, rGetN, iKN, iIN, iRg3, iRng3, rGetL, tAugS, tNo, rCopyN, rRep,
  List.map_cons, List.map_nil, List.length_cons, List.length_nil, List.cons_append, List.nil_append, List.replicate, Nat.reduceAdd, Nat.reduceSub, Nat.zero_add, Nat.sub_self,
  List.getElem?_cons_zero, List.getElem?_cons_succ, List.set_cons_zero, List.set_cons_succ, wipe, Option.some.injEq, exists_eq_left', exists_eq_left, V.bl.injEq, V.int.injEq, ref_inj, ty_inj, if_true, if_false, Bool.false_eq_true, Bool.true_eq_false, exists_const, exists_and_left, true_and, and_true, List.cons.injEq,
  isB_int, isB_bool, isB_tuple, isB_list, isT_at, iSq, iRg1, iRg2, iZ2, iZ3, iEn])
local macro_rules | `(tactic| walk_at "r0") => `(tactic| try simp only [cxOf_K, tIfS, tTest, tB, tCB, tCons, tNil, tC, tVar, tOp, tUn, tAndV, tOrV, tNotV, tAnd, tOr, tNot, tIf, tChain, tRet, tRetN, tAsg, gName, tDrop, tNext, tCallS, WE, rI0, rI, rU, L2.start, tYes, gTup, gCons, gNil, tPar, tPar3, tAug, ipI, tWidth, tCall, tMeth, tMake, tFld, tRows, tTable, sFld, rMulT, rSumT, gSub, tBM, rAppend, rSetL, rExtend, rSlL, rSlQ, tCol, Int.toNat_natCast,  tSl, tNoPart, tPart, tTup, tLst, tNever, itu_g, sDPut, tDNewK, tDNewN, tDispN, rSetN, rIxN, rInN, tGetN, rGetN, iKN, iIN, iRg3, iRng3, rGetL, tAugS, tNo, rCopyN, rRep,
  List.map_cons, List.map_nil, List.length_cons, List.length_nil, List.cons_append, List.nil_append, List.replicate, Nat.reduceAdd, Nat.reduceSub, Nat.zero_add, Nat.sub_self,
  List.getElem?_cons_zero, List.getElem?_cons_succ, List.set_cons_zero, List.set_cons_succ, wipe, Option.some.injEq, exists_eq_left', exists_eq_left, V.bl.injEq, V.int.injEq, ref_inj, ty_inj, if_true, if_false, Bool.false_eq_true, Bool.true_eq_false, exists_const, exists_and_left, true_and, and_true, List.cons.injEq,
  isB_int, isB_bool, isB_tuple, isB_list, isT_at, iSq, iRg1, iRg2, iZ2, iZ3, iEn])
local macro_rules | `(tactic| walk_at "st") => `(tactic| ((try dsimp only); rw [tSeq_def]))
local macro_rules | `(tactic| walk_at "lp") => `(tactic| first | rw [tFor_def] | rw [tLc_def] | rw [tWhile_def])
local macro_rules | `(tactic| walk_at "ex") => `(tactic| simp only [List.cons.injEq, and_true, true_and, and_assoc, exists_and_left, exists_eq_left', exists_eq_left, exists_eq_right, exists_const, V.int.injEq, V.bl.injEq, ref_inj, Bool.not_true, Bool.not_false, Bool.false_eq_true, if_true, if_false, Bool.true_eq_false])
section
variable {P : Program} {w : World} {K : PySem.W.Frag} {mg : Str → Option Value} {base : Heap} {a : Ad}
/-! ### seams: keys and data of states -/
def kS (wd : Nat) (s : StS) : NestedKey := .tup [.tup (s.1.map .num), if s.2 = true then .tup ((zeros wd).map .num) else .none]
theorem nk_ints {H : Hp} : ∀ xs : List Int, NkAll H (xs.map .num) (xs.map V.int)
  | [] => .nil
  | x :: xs => .cons (.int x) (nk_ints xs)
theorem nk_dep : ∀ xs : List Int, NestedKey.depthAll (xs.map .num) = 0
  | [] => rfl
  | x :: xs => by
    rw [List.map_cons]
    show max (NestedKey.depth (.num x)) (NestedKey.depthAll (xs.map .num)) = 0
    rw [nk_dep xs]
    rfl
theorem keyS {wd : Nat} {H : Hp} {p : Addr} {s : StS} (h : StAt wd H p s) : KeyAt H p (kS wd s) := by
  obtain ⟨lt, lv, h1, h2, h3, h4⟩ := h
  obtain ⟨l, b⟩ := s
  have d1 : (NestedKey.tup (l.map .num)).depth ≤ 7 := by
    show NestedKey.depthAll (l.map .num) + 1 ≤ 7
    rw [nk_dep]
    omega
  have d2 : (NestedKey.tup ((zeros wd).map .num)).depth ≤ 7 := by
    show NestedKey.depthAll ((zeros wd).map .num) + 1 ≤ 7
    rw [nk_dep]
    omega
  cases b with
  | false =>
    obtain rfl := h3 rfl
    exact keyT2 h1 (.tup h2 (nk_ints _)) .non d1 (Nat.zero_le _)
  | true =>
    obtain ⟨z, rfl, hz⟩ := h4 rfl
    exact keyT2 h1 (.tup h2 (nk_ints _)) (.tup hz (nk_ints _)) d1 d2
theorem num_inj {x y : List Int} (h : x.map NestedKey.num = y.map NestedKey.num) : x = y := by
  induction x generalizing y with
  | nil => cases y with
    | nil => rfl
    | cons _ _ => exact nomatch h
  | cons a x ih => cases y with
    | nil => exact nomatch h
    | cons b y =>
      simp only [List.map_cons, List.cons.injEq, NestedKey.num.injEq] at h
      rw [h.1, ih h.2]
theorem kS_inj (wd : Nat) (x y : StS) (h : kS wd x = kS wd y) : x = y := by
  obtain ⟨l, b⟩ := x
  obtain ⟨m, c⟩ := y
  unfold kS at h
  simp only [NestedKey.tup.injEq, List.cons.injEq, and_true] at h
  obtain ⟨h1, h2⟩ := h
  rw [num_inj h1]
  cases b <;> cases c <;> first | rfl | exact nomatch h2
/-- the data of a state -/
def pS (wd : Nat) (s : StS) : PyData := .tuple [.tuple (s.1.map .int), if s.2 = true then .tuple ((zeros wd).map .int) else .none]
theorem dpS {K : PySem.W.Frag} {wd : Nat} {H : Hp} {p : Addr} {s : StS} (h : StAt wd H p s) : Dp K H (.ref p) (pS wd s) := by
  obtain ⟨lt, lv, h1, h2, h3, h4⟩ := h
  obtain ⟨l, b⟩ := s
  refine .tup (SqT.of h1) (.cons (.tup (SqT.of h2) (dp_ints _)) (.cons ?_ .nil))
  cases b with
  | false =>
    obtain rfl := h3 rfl
    exact .non
  | true =>
    obtain ⟨z, rfl, hz⟩ := h4 rfl
    exact .tup (SqT.of hz) (dp_ints _)
theorem eqvS (wd : Nat) (s t : StS) : PyData.eqv (pS wd s) (pS wd t) = decide (s = t) := by
  obtain ⟨l, b⟩ := s
  obtain ⟨m, c⟩ := t
  show (PyData.eqvAll (l.map .int) (m.map .int) && (PyData.eqv (if b = true then .tuple ((zeros wd).map .int) else .none) (if c = true then .tuple ((zeros wd).map .int) else .none) && true)) = _
  rw [eqv_ints, Bool.and_true]
  have hz : PyData.eqv (.tuple ((zeros wd).map .int)) (.tuple ((zeros wd).map .int)) = true := by
    show PyData.eqvAll _ _ = true
    rw [eqv_ints]
    simp
  cases b <;> cases c
  · show (decide (l = m) && true) = _
    by_cases e : l = m <;> simp [e]
  · show (decide (l = m) && false) = _
    simp
  · show (decide (l = m) && false) = _
    simp
  · simp only [if_true, hz]
    by_cases e : l = m <;> simp [e]
theorem shS (wd : Nat) (s : StS) : PyData.canLay0 (pS wd s) = true ∧ PyData.depth (pS wd s) ≤ 2 := by
  obtain ⟨l, b⟩ := s
  obtain ⟨h1, h2⟩ := sh_ints l
  obtain ⟨h3, h4⟩ := sh_ints (zeros wd)
  cases b with
  | false =>
    refine ⟨?_, ?_⟩
    · show (PyData.canLayAll0 (l.map .int) && (true && true)) = true
      rw [h1]; rfl
    · show max (PyData.depthAll (l.map .int) + 1) (max 0 0) + 1 ≤ 2
      rw [h2]; decide
  | true =>
    refine ⟨?_, ?_⟩
    · show (PyData.canLayAll0 (l.map .int) && (PyData.canLayAll0 ((zeros wd).map .int) && true)) = true
      rw [h1, h3]; rfl
    · show max (PyData.depthAll (l.map .int) + 1) (max (PyData.depthAll ((zeros wd).map .int) + 1) 0) + 1 ≤ 2
      rw [h2, h4]; decide
theorem shapedS (wd : Nat) (s : StS) : SeqAt.shaped (pS wd s) = true := by
  obtain ⟨h1, h2⟩ := shS wd s
  show (PyData.canLay0 (pS wd s) && decide (PyData.depth (pS wd s) ≤ 64)) = true
  rw [h1, decide_eq_true (by omega)]; rfl
theorem shSA (wd : Nat) : ∀ L : List StS, PyData.canLayAll0 (L.map (pS wd)) = true ∧ PyData.depthAll (L.map (pS wd)) ≤ 2
  | [] => ⟨rfl, Nat.zero_le _⟩
  | s :: L => by
    obtain ⟨h1, h2⟩ := shS wd s
    obtain ⟨h3, h4⟩ := shSA wd L
    refine ⟨?_, ?_⟩
    · show (PyData.canLay0 (pS wd s) && PyData.canLayAll0 (L.map (pS wd))) = true
      rw [h1, h3]; rfl
    · show max (PyData.depth (pS wd s)) (PyData.depthAll (L.map (pS wd))) ≤ 2
      omega
theorem shapedSL (wd : Nat) (L : List StS) : SeqAt.shaped (.list (L.map (pS wd))) = true := by
  obtain ⟨h1, h2⟩ := shSA wd L
  show (PyData.canLayAll0 (L.map (pS wd)) && decide (PyData.depthAll (L.map (pS wd)) + 1 ≤ 64)) = true
  rw [h1, decide_eq_true (by omega)]; rfl
theorem dpSL {K : PySem.W.Frag} {wd : Nat} {H : Hp} : ∀ {ts : List Addr} {L : List StS}, Paired (StAt wd H) ts L → DpAll K H (ts.map V.ref) (L.map (pS wd))
  | _, _, .nil => .nil
  | _, _, .cons r t => .cons (dpS r) (dpSL t)
theorem anyS (wd : Nat) (s : StS) (L : List StS) : ((L.map (pS wd)).any fun z => PyData.eqv z (pS wd s)) = decide (s ∈ L) := by
  rw [List.any_map, Bool.eq_iff_iff, List.any_eq_true, decide_eq_true_eq]
  constructor
  · rintro ⟨x, hx, h⟩
    have h' : PyData.eqv (pS wd x) (pS wd s) = true := h
    rw [eqvS, decide_eq_true_eq] at h'
    exact h' ▸ hx
  · intro h
    exact ⟨s, h, by show PyData.eqv (pS wd s) (pS wd s) = true; rw [eqvS]; simp⟩
theorem opK_notInD {X : Cx} {K : PySem.W.Frag} (hK : X.K = K) (hu : X.A.units + 65 < cLine) : OpR X (compareOp .NotIn) (rNotInD K) := by
  subst hK
  exact op_notInD hu
theorem opK_neD {X : Cx} {K : PySem.W.Frag} (hK : X.K = K) (hu : X.A.units + 64 < cLine) : OpR X (compareOp .NotEq) (rNeD K) := by
  subst hK
  exact op_neD hu
/-- late not in line -/
theorem notIn_st {K : PySem.W.Frag} {wd : Nat} {H : Hp} {Q : VK} {p l : Addr} {s : StS} {ts : List Addr} {L : List StS} (h : StAt wd H p s) (hl : H l = some (.lst (ts.map V.ref))) (hp : Paired (StAt wd H) ts L) (q : Q (.bl (!decide (s ∈ L))) H) : rNotInD K (.ref p) (.ref l) H Q :=
  ⟨pS wd s, L.map (pS wd), dpS h, .lst (SqL.of hl) (dpSL hp), shapedS wd s, shapedSL wd L, by rw [anyS]; exact q⟩
theorem hu65 {A : Around} {k : Nat} (hr : Room k A) : A.units + 65 < cLine := by have := hr.un; omega
/-- the floors of all states that are reached -/
def FlG (k : Nat) (G : List (StS × Int)) : Prop := (∀ x ∈ G, x.2 = 0 ∧ x.1.1.Sublist (rgI k)) ∧ (G.map (·.1)).Nodup ∧ (rgI k, false) ∈ G.map (·.1) ∧ ∀ x ∈ G, ∀ y ∈ stepsOf x.1.1 x.1.1, y ∈ G.map (·.1)
theorem rgV_nat (k : Nat) : rgV 0 (k : Nat) = (rgI k).map V.int := by
  unfold rgV rgI
  rw [List.map_map, show ((k : Int) - 0).toNat = k by omega]
  refine List.map_congr_left fun i _ => ?_
  show V.int (0 + (i : Nat)) = V.int (Int.ofNat i)
  rw [Int.zero_add]
  rfl
theorem rgOk_nat {k : Nat} (h : k ≤ 6) : RgOk 0 (k : Nat) := RgOk.of_le (by omega) (by omega) (by omega) (by omega)
theorem kvG_zero {f : StS → NestedKey} {M : List StS} {x : StS} (h : x ∈ M) : valV (kvG f (M.map fun s => (s, 0))) (f x) = some (.int 0) := by
  have hs := kvG_has (f := f) (F := M.map fun s => (s, (0 : Int))) (s := x) ⟨0, List.mem_map.mpr ⟨x, h, rfl⟩⟩
  cases hv : valV (kvG f (M.map fun s => (s, 0))) (f x) with
  | none => rw [hv] at hs; exact nomatch hs
  | some v =>
    obtain ⟨y, hy, _, e⟩ := kvG_val hv
    obtain ⟨z, _, rfl⟩ := List.mem_map.mp hy
    rw [e]
theorem nodup_rev {α : Type} {l : List α} (nd : l.Nodup) : l.reverse.Nodup := by
  unfold List.Nodup
  rw [List.pairwise_reverse]
  exact List.Pairwise.imp (fun h => Ne.symm h) nd
theorem nodup_at {α : Type} {l : List α} (nd : l.Nodup) {i j : Nat} {x : α} (hi : l[i]? = some x) (hj : l[j]? = some x) : i = j := by
  obtain ⟨h1, e1⟩ := List.getElem?_eq_some_iff.mp hi
  obtain ⟨h2, e2⟩ := List.getElem?_eq_some_iff.mp hj
  exact (List.getElem_inj nd).mp (e1.trans e2.symm)
/-- the line, so far -/
def LnAt (w : Nat) (H0 : Hp) (L : Addr) (acc : List StS) (H' : Hp) : Prop := Same H0 H' ∧ ∃ ts : List Addr, H' L = some (.lst (ts.map V.ref)) ∧ Paired (StAt w H') ts acc
theorem LnAt.same {w : Nat} {H0 H1 H2 : Hp} {L : Addr} {acc : List StS} (h : LnAt w H0 L acc H1) (e : Same H1 H2) : LnAt w H0 L acc H2 := by
  obtain ⟨e1, ts, h1, h2⟩ := h
  exact ⟨e1.trans e, ts, e _ _ h1, Paired.imp2 h2 fun _ _ z => z.k (tupS e)⟩
theorem LnAt.push {w : Nat} {H0 H1 : Hp} {L T : Addr} {acc : List StS} {x : StS} {ts : List Addr} (h : LnAt w H0 L acc H1) (hL : H0 L = none) (hl : H1 L = some (.lst (ts.map V.ref))) (hT : StAt w H1 T x) : LnAt w H0 L (acc ++ [x]) (upd H1 L (.lst (ts.map V.ref ++ [.ref T]))) := by
  obtain ⟨e1, ts', h1, h2⟩ := h
  rw [h1] at hl
  have e : ts'.map V.ref = ts.map V.ref := by injection (Option.some.inj hl)
  have k : TupK H1 (upd H1 L (.lst (ts.map V.ref ++ [.ref T]))) := tupK_lst h1
  exact ⟨SameX.out e1 (SameX.upd (SameX.refl L H1)) hL, ts' ++ [T], by rw [upd_same, List.map_append, e]; rfl, paired_snoc (Paired.imp2 h2 fun _ _ z => z.k k) (hT.k k)⟩
theorem sub6 {k : Nat} {s : StS} (h : s.1.Sublist (rgI k)) (k6 : k ≤ 6) : s.1.length ≤ 6 ∧ ∀ i ∈ s.1, 0 ≤ i ∧ i < (k : Nat) := by
  have := h.length_le
  rw [rgI_len] at this
  exact ⟨by omega, fun i hi => rgI_mem (h.subset hi)⟩
/-- floors_of(pieces, prices) -/
def spFo (P : Program) (w : World) (a : Ad) : Sp := fun vs H Q _ => ∃ (v p : V) (l : Addr) (k : Nat) (one : V) (n wd : Nat), vs = [v, p] ∧ PcOk a H v p l k one n wd ∧ ∀ d G H', Same H H' → DN P w H' d (kvG (kS wd) G) → FlG k G → Q (.ref d) H'
abbrev N_floors_of : List Str := ["pieces", "prices", "begin", "line", "at", "late", "first", "found", "state", "rows"]
theorem ok_floors_of (D : Def K mg "floors_of" 33) (T : Txt K mg a) (M : TabM P w K mg base a.CT) (c_steps_from : CalX P w K mg base 2 "steps_from" (spSf a.CT)) (c_seam : CalX P w K mg base 2 "seam" spSeam) : CalX P w K mg base 3 "floors_of" (spFo P w a) := by
  refine calx (N := N_floors_of) (ps := ["pieces", "prices"]) D (by decide +kernel) (fun vs H Q E h => ?_) (fun _ _ _ _ _ _ us hl => match us, hl with | [_, _], _ => rfl) (fun f cdv A outer s H vs Q E hr nd tk pn h => ⟨_, (pss_cons (ps_set (i := 2) nd rfl (Or.inl rfl) (pe_tup (pa_cons (pe_tupRg rfl (by rfl) T.tuple (prg_1 (by rfl) T.range (pe_callB (call_lenK (K := K) rfl M hr (by decide)) (by rfl) T.len bi_len (pa_cons (pv 0) pa_nil)))) (pa_cons pe_non pa_nil))))
      (pss_cons (ps_par (i := 3) (j := 4) rfl nd rfl rfl (by decide) rfl rfl (pa_cons (pe_lst (pa_cons (pv 2) pa_nil)) (pa_cons pe_int pa_nil)) (by rfl))
      (pss_cons (ps_while pn (pt_cmpR op_lt (pv 4) (pe_callB (call_lenK (K := K) rfl M hr (by decide)) (by rfl) T.len bi_len (pa_cons (pv 3) pa_nil)) (nomark _))
      (pss_cons (ps_for pn rfl (pi_sq (pe_cx c_steps_from hr (by decide) tk (pa_cons (pv 0) (pa_cons (pe_ix (ixK (K := K) rfl) (pv 3) (pv 4) (fun _ _ => rfl)) pa_nil)))) (pg_tupK (K := K) (n := 2) rfl rfl (pgs_cons (pg_name (i := 5) nd rfl (Or.inl rfl)) (pgs_cons (pg_name (i := 6) nd rfl (Or.inl rfl)) pgs_nil)))
      (pss_one (ps_if (pt_cmpR (opK_notInD (K := K) rfl (hu65 hr)) (pv 5) (pv 3) rfl)
      (pss_one (ps_expr (pe_bm PySem.F.plainAttrs_list PySem.F.slot_list_append PySem.F.type_list_append mt_append (pv 3) (pa_cons (pv 5) pa_nil))))
      pss_nil)))
      (pss_one (ps_aug (i := 4) nd rfl (Or.inl rfl) pe_int ip_add))))
      (pss_cons (ps_set (i := 7) nd rfl (Or.inr rfl) (pe_dnewN (P := P) (w := w)))
      (pss_cons (ps_for pn rfl (pi_sq (pe_revL (pv 3))) (pg_name (i := 8) nd rfl (Or.inr rfl))
      (pss_cons (ps_setLc (i := 9) (own := [("late", 5), ("first", 6)]) rfl nd rfl rfl (sw_true rfl rfl rfl (by decide +kernel)) (pi_sq (pe_cx c_steps_from hr (by decide) tk (pa_cons (pv 0) (pa_cons (pv 8) pa_nil)))) (blkOk_by (own := [("late", 5), ("first", 6)]) (N := N_floors_of) (sc := defScope (top 33)) (by decide +kernel)) (fun _ _ _ _ _ => (pg_tupK (K := K) (n := 2) rfl rfl (pgs_cons (pg_name (i := 5) nd rfl (Or.inl rfl)) (pgs_cons (pg_name (i := 6) nd rfl (Or.inl rfl)) pgs_nil)))) (fun _ _ _ _ _ => pts_nil) (fun _ _ _ _ _ => (pe_op op_add (pe_ix (ixN' (P := P) (w := w) rfl rfl hr.units) (pv 7) (pv 5) (fun _ _ => rfl)) (pe_cx c_seam hr (by decide) tk0 (pa_cons (pe_ix (ixK (K := K) rfl) (pv 8) pe_int (fun _ _ => rfl)) (pa_cons (pv 6) (pa_cons (pv 1) pa_nil)))))))
      (pss_one (ps_asg (pe_ifExp (pt_cmpR (opK_neD (K := K) rfl hr.units) (pv 9) (pe_lst pa_nil) (nomark _)) (pe_callB (crK_min (K := K) rfl rfl) (by rfl) T.min bi_min (pa_cons (pv 9) pa_nil)) pe_int) (pg_sub (pv 7) (pv 8) (setN (P := P) (w := w) rfl rfl hr.units))))))
      (pss_one (ps_ret (pv 7)))))))), ?_⟩)
  · obtain ⟨_, _, _, _, _, _, _, rfl, _⟩ := h
    rfl
  · obtain ⟨v, p, l, k, one, n, wd, rfl, c, q⟩ := h
    clear tk pn nd hr
    obtain rfl := c.v
    walk_at "st"
    walk_at "r0"
    simp only [tTupRg, tRg1]
    walk_at "r0"
    refine len_pc c.as ⟨_, rfl, ?_⟩
    rw [List.length_replicate]
    refine ⟨rgOk_nat c.k6, fun lt hlt => ?_⟩
    rw [rgV_nat]
    have e1 : Same H (upd H lt (.tup ((rgI k).map V.int))) := same_new (Same.refl H) hlt
    have h1 : upd H lt (.tup ((rgI k).map V.int)) lt = some (.tup ((rgI k).map V.int)) := upd_same
    generalize upd H lt (.tup ((rgI k).map V.int)) = H1 at e1 h1 ⊢
    refine ⟨small' (by omega), fun p2 hp2 => ?_⟩
    have e2 : Same H1 (upd H1 p2 (.tup [.ref lt, .non])) := same_new (Same.refl H1) hp2
    have h2 : upd H1 p2 (.tup [.ref lt, .non]) p2 = some (.tup [.ref lt, .non]) := upd_same
    have s2 : StAt wd (upd H1 p2 (.tup [.ref lt, .non])) p2 (rgI k, false) := ⟨lt, .non, h2, e2 _ _ h1, fun _ => rfl, fun h => Bool.noConfusion h⟩
    generalize upd H1 p2 (.tup [.ref lt, .non]) = H2 at e2 h2 s2 ⊢
    have e02 := e1.trans e2
    walk_at "st"
    walk_at "r0"
    refine ⟨by decide, fun LL hLL => ⟨_, _, ⟨rfl, rfl⟩, ?_⟩⟩
    have ln0 : LnAt wd H2 LL [(rgI k, false)] (upd H2 LL (.lst [.ref p2])) := by
      refine ⟨same_new (Same.refl H2) hLL, [p2], upd_same, .cons (s2.k (tupS (same_new (Same.refl H2) hLL))) .nil⟩
    generalize upd H2 LL (.lst [.ref p2]) = H3 at ln0 ⊢
    walk_at "st"
    generalize hB : tSeq (tAsg (tDNewN P w) (gName 7)) _ = B
    have rest : ∀ H' (L : List StS) v5 v6, LnAt wd H2 LL L H' → Bfs k L.length L → B { nx := fun x H' => Q V.non H', rt := Q } [some (V.ref l), some p, some (V.ref p2), some (.ref LL), some (.int (L.length : Nat)), v5, v6, none, none, none] H' := by
      subst hB
      intro H4 L v5 v6 ln4 bf
      obtain ⟨e4, ts4, hl4, hp4⟩ := id ln4
      walk_at "st"
      walk_at "r0"
      intro d H5 hd e5 eo5 dn5
      walk_at "st"
      walk_at "lp"
      simp only [tRevL]
      walk_at "r0"
      refine ⟨_, rfl, LL, _, rfl, SqL.of (e5 _ _ hl4), fun RL hRL => ⟨RL, rfl, true, _, sqA_l upd_same, ?_⟩⟩
      have e6 := same_new (o := .lst (ts4.map V.ref).reverse) (Same.refl H5) hRL
      have hRL6 : upd H5 RL (.lst (ts4.map V.ref).reverse) RL = some (.lst (ts4.map V.ref).reverse) := upd_same
      have dn6 := dn5.same e6
      generalize upd H5 RL (.lst (ts4.map V.ref).reverse) = H6 at e6 hRL6 dn6 ⊢
      have e46 := e5.trans e6
      have hp6 : Paired (StAt wd H6) ts4 L := Paired.imp2 hp4 fun _ _ z => z.k (tupS e46)
      have hdH2 : H2 d = none := by
        cases hz : H2 d with
        | none => rfl
        | some o => rw [e4 _ _ hz] at hd; exact nomatch hd
      have hdRL : d ≠ RL := dn6.ne_lst hRL6
      have hsz := bf.len c.k6
      have hpl := hp4.length
      refine forB (fun j σ H' => SameX d H6 H' ∧ DN P w H' d (kvG (kS wd) ((L.reverse.take j).map fun s => (s, 0))) ∧ ∃ v8 v9, σ = [some (V.ref l), some p, some (V.ref p2), some (.ref LL), some (.int (L.length : Nat)), v5, v6, some (.ref d), v8, v9]) ⟨SameX.refl d H6, by simpa [kvG] using dn6, none, none, rfl⟩ (fun j σ H' _ h => sqA_l (h.1 _ _ hRL6 (Ne.symm hdRL))) ?_ ?_
      · rintro j v σ H7 H8 Nx hj ⟨x7, dn7, v8, v9, rfl⟩ y nx
        simp only [yV] at y
        obtain ⟨rfl, rfl⟩ := y
        rw [List.length_reverse, List.length_map] at hj
        have hji : L.length - 1 - j < L.length := by omega
        obtain ⟨s, hs⟩ : ∃ s, L[L.length - 1 - j]? = some s := ⟨_, List.getElem?_eq_getElem hji⟩
        have hsr : L.reverse[j]? = some s := by
          rw [List.getElem?_reverse (by omega)]
          exact hs
        have k67 : TupK H6 H8 := fun b xs h => x7 _ _ h fun e => (dn6.nt xs) (by rw [← e]; exact h)
        obtain ⟨tp, htp, hst⟩ : ∃ tp, (ts4.map V.ref).reverse.getD j .non = .ref tp ∧ StAt wd H8 tp s := by
          have ha : ts4[L.length - 1 - j]? = some (ts4[L.length - 1 - j]'(by omega)) := List.getElem?_eq_getElem (by omega)
          obtain ⟨b, hb, q⟩ := paired_get hp6 ha
          rw [hs] at hb
          cases hb
          refine ⟨_, ?_, q.k k67⟩
          rw [List.getD_eq_getElem?_getD, List.getElem?_reverse (by rw [List.length_map]; omega), List.length_map, List.getElem?_map, show ts4.length - 1 - j = L.length - 1 - j by omega, ha]
          rfl
        rw [htp]
        obtain ⟨s6, sk⟩ := sub6 (bf.sub s (List.mem_of_getElem? hs)) c.k6
        have e27 : Same H2 H8 := SameX.out (e4.trans e46) x7 hdH2
        walk_at "st"
        walk_at "r0"
        walk_at "lp"
        walk_at "r0"
        simp only [spSf]
        refine ⟨l, tp, k, one, n, wd, s, rfl, (c.as.same e02).same e27, c.k6, (c.tb.same e02).same e27, c.n1, hst, s6, sk, fun FL H9 fd hFL => ?_⟩
        have e89 := fd.1
        obtain ⟨_, fts, hfl, hfp⟩ := id fd
        refine ⟨FL, rfl, true, _, sqA_l hfl, fun D1 hD1 => ?_⟩
        have dn9 := dn7.same e89
        refine lcA (fun _ => .int 0) hD1 (by rw [List.length_map, hfp.length, stepsOf_len]; omega) (fun H' e => sqA_l (e _ _ hfl)) (fun i v H10 H11 acc Nx2 hi e10 ha y nx2 => ?_) (fun H10 e10 h => ?_)
        · simp only [yV] at y
          obtain ⟨rfl, rfl⟩ := y
          rw [List.length_map] at hi
          obtain ⟨x, hx, hstep⟩ := paired_get hfp (i := i) (List.getElem?_eq_getElem hi)
          have hgi : (fts.map V.ref).getD i .non = .ref fts[i] := by
            rw [List.getD_eq_getElem?_getD, List.getElem?_map, List.getElem?_eq_getElem hi]
            rfl
          rw [hgi]
          obtain ⟨ps, fi, ht, hps, hfi⟩ := hstep.k (tupS e10)
          have hxs : x ∈ stepsOf s.1 s.1 := List.mem_of_getElem? hx
          obtain ⟨j2, hj2, hx2⟩ := bf.after hs hxs
          have hxin : x ∈ L.reverse.take j := by
            have hj2l := (List.getElem?_eq_some_iff.mp hx2).1
            have hr : (L.reverse.take j)[L.length - 1 - j2]? = some x := by
              rw [List.getElem?_take_of_lt (by omega), List.getElem?_reverse (by omega), show L.length - 1 - (L.length - 1 - j2) = j2 by omega]
              exact hx2
            exact List.mem_of_getElem? hr
          have hval := kvG_zero (f := kS wd) hxin
          refine un2 ht ⟨ps, rfl, _, keyS hps, _, dn9.same e10, _, hval, ?_⟩
          obtain ⟨lt', lv', hst1, hst2, hst3⟩ := hst.k (tupS (e89.trans e10))
          refine ix_t hst1 (atI_nat (k := 1) rfl) ?_
          obtain ⟨prs, hpr, _⟩ := prB_of c.pr
          exact ⟨lv', .ref fi, p, prs, wd, s.2, rfl, hst3.1, hst3.2, ⟨fi, rfl, hfi⟩, hpr.same ((e02.trans e27).trans (e89.trans e10)), c.sh.w4, fun H' e => ⟨0, rfl, 0, rfl, nx2 _ e⟩⟩
        · have fin : ∀ Hx, Same H9 Hx → ∃ x, KeyAt Hx tp x ∧ ∃ x_1, DN P w Hx d x_1 ∧ x_1.length < 100000 ∧ ∀ H', (∀ c, c ≠ d → H' c = Hx c) → DN P w H' d (putK x_1 x (.int 0)) →
              Nx [some (V.ref l), some p, some (V.ref p2), some (V.ref LL), some (V.int ↑L.length), v5, v6, some (V.ref d), some (V.ref tp), some (V.ref D1)] H' := by
            intro Hx ex
            refine ⟨_, keyS (hst.k (tupS (e89.trans ex))), _, dn9.same ex, by rw [kvG, List.length_map, List.length_map]; have := List.length_take_le j L.reverse; omega, fun H' hc dn => ?_⟩
            refine nx _ _ ⟨(x7.same (e89.trans ex)).trans (SameX.of hc), ?_, _, _, rfl⟩
            rw [kvG_put (kS_inj wd)] at dn
            have hnot : s ∉ ((L.reverse.take j).map fun s => (s, (0 : Int))).map (·.1) := by
              rw [List.map_map]
              intro hin
              obtain ⟨y, hy, rfl⟩ := List.mem_map.mp hin
              obtain ⟨i2, hi2⟩ := List.getElem?_of_mem hy
              have hi2' := (List.getElem?_eq_some_iff.mp hi2).1
              rw [List.length_take] at hi2'
              rw [List.getElem?_take_of_lt (by omega)] at hi2
              exact absurd (nodup_at (nodup_rev bf.nd) hi2 hsr) (by omega)
            rw [setG, if_neg hnot] at dn
            rw [List.take_add_one, hsr, List.map_append]
            exact dn
          refine ⟨Nat.zero_le _, fun p3 hp3 => ?_⟩
          have e11 := same_new (o := .lst []) (Same.refl H10) hp3
          have hp31 : upd H10 p3 (.lst []) p3 = some (.lst ([] : List V)) := upd_same
          generalize upd H10 p3 (.lst []) = H12 at e11 hp31 ⊢
          have h12 : H12 D1 = some (.lst (((List.range (fts.map V.ref).length).map fun _ => (0 : Int)).map V.int)) := by
            rw [e11 _ _ h, List.map_map]
            rfl
          refine ne_nilL h12 (dp_ints _) (sh_intL _) hp31 ⟨_, rfl, ?_⟩
          cases hemp : (((List.range (fts.map V.ref).length).map fun _ => (0 : Int)).map V.int).isEmpty with
          | true =>
            rw [if_neg (by decide)]
            exact fin _ (e10.trans e11)
          | false =>
            rw [if_pos (by decide)]
            refine min_l h12 ?_ fun m hm _ => ?_
            · cases hz : (List.range (fts.map V.ref).length).map fun _ => (0 : Int) with
              | nil => rw [hz] at hemp; exact nomatch hemp
              | cons a l => simp
            · obtain ⟨_, _, rfl⟩ := List.mem_map.mp hm
              exact fin _ (e10.trans e11)
      · rintro σ H7 ⟨x7, dn7, v8, v9, rfl⟩
        walk_at "rd"
        rw [List.length_reverse, List.length_map, hpl, ← List.length_reverse, List.take_length] at dn7
        have hkeys : ((L.reverse.map fun s => (s, (0 : Int))).map (·.1)) = L.reverse := by
          rw [List.map_map]
          show L.reverse.map id = _
          rw [List.map_id]
        have hdH : H d = none := by
          cases hz : H d with
          | none => rfl
          | some o => rw [e02 _ _ hz] at hdH2; exact nomatch hdH2
        refine q d _ H7 (SameX.out (e02.trans (e4.trans e46)) x7 hdH) dn7 ⟨fun x hx => ?_, ?_, ?_, fun x hx y hy => ?_⟩
        · obtain ⟨y, hy, rfl⟩ := List.mem_map.mp hx
          exact ⟨rfl, bf.sub y (List.mem_reverse.mp hy)⟩
        · rw [hkeys]
          exact nodup_rev bf.nd
        · rw [hkeys]
          exact List.mem_reverse.mpr bf.beg
        · rw [hkeys]
          obtain ⟨z, hz, rfl⟩ := List.mem_map.mp hx
          obtain ⟨i, hi⟩ := List.getElem?_of_mem (List.mem_reverse.mp hz)
          exact List.mem_reverse.mpr (bf.cl i z (List.getElem?_eq_some_iff.mp hi).1 hi y hy)
    clear hB
    refine whileW (fun m σ H' => ∃ (at_ : Nat) (L : List StS) (v5 v6 : Option V), σ = [some (V.ref l), some p, some (V.ref p2), some (.ref LL), some (.int (at_ : Nat)), v5, v6, none, none, none] ∧ LnAt wd H2 LL L H' ∧ Bfs k at_ L ∧ at_ ≤ L.length ∧ m + at_ = 128) ⟨128, 0, _, none, none, rfl, ln0, Bfs.new k, Nat.zero_le _, rfl⟩ ?_
    rintro m σ H4 N ⟨at_, L, v5, v6, rfl, ln4, bf, hat, hm⟩ hN1 hN2
    walk_at "r0"
    obtain ⟨e4, ts4, hl4, hp4⟩ := id ln4
    refine len_l hl4 ?_
    rw [List.length_map, hp4.length]
    refine ⟨_, rfl, ?_⟩
    by_cases hlt2 : at_ < L.length
    case neg =>
      rw [if_neg (by rw [decide_eq_true_eq]; omega)]
      obtain rfl : at_ = L.length := by omega
      exact rest H4 L v5 v6 ln4 bf
    rw [if_pos (by rw [decide_eq_true_eq]; omega)]
    refine ⟨N, hN1, ?_⟩
    have hsz := bf.len c.k6
    obtain ⟨s, hs⟩ : ∃ s, L[at_]? = some s := ⟨_, List.getElem?_eq_getElem hlt2⟩
    obtain ⟨tp, htp, hst⟩ : ∃ tp, ts4[at_]? = some tp ∧ StAt wd H4 tp s := by
      have hl := hp4.length
      have ha : ts4[at_]? = some (ts4[at_]'(by omega)) := List.getElem?_eq_getElem (by omega)
      obtain ⟨b, hb, q⟩ := paired_get hp4 ha
      rw [hs] at hb
      cases hb
      exact ⟨_, ha, q⟩
    obtain ⟨s6, sk⟩ := sub6 (bf.sub s (List.mem_of_getElem? hs)) c.k6
    walk_at "st"
    walk_at "lp"
    walk_at "r0"
    refine ix_l hl4 (atI_nat (by rw [List.getElem?_map, htp]; rfl)) ?_
    simp only [spSf]
    refine ⟨l, tp, k, one, n, wd, s, rfl, (c.as.same e02).same e4, c.k6, (c.tb.same e02).same e4, c.n1, hst, s6, sk, fun FL H5 fd hFL => ?_⟩
    have ln5 := ln4.same fd.1
    obtain ⟨_, fts, hfl, hfp⟩ := id fd
    have hne : FL ≠ LL := fun e => by rw [e, hl4] at hFL; exact nomatch hFL
    refine ⟨FL, rfl, true, _, sqA_l hfl, ?_⟩
    refine forB (fun j σ H' => ∃ Lb w5 w6, σ = [some (V.ref l), some p, some (V.ref p2), some (.ref LL), some (.int (at_ : Nat)), w5, w6, none, none, none] ∧ LnAt wd H2 LL Lb H' ∧ Bfs k at_ Lb ∧ Lb[at_]? = some s ∧ at_ < Lb.length ∧ (∀ x ∈ (stepsOf s.1 s.1).take j, x ∈ Lb) ∧ SameX LL H5 H') ⟨L, v5, v6, rfl, ln5, bf, hs, hlt2, by simp, SameX.refl LL H5⟩ (fun j σ H' _ h => ?_) ?_ ?_
    · obtain ⟨_, _, _, _, _, _, _, _, _, h⟩ := h
      exact sqA_l (h _ _ hfl hne)
    · rintro j v σ H6 H7 Nx hj ⟨Lb, w5, w6, rfl, ln6, bf6, hs6, hlt6, hin, x6⟩ y nx
      simp only [yV] at y
      obtain ⟨rfl, rfl⟩ := y
      rw [List.length_map] at hj
      obtain ⟨x, hx, hstep⟩ := paired_get hfp (i := j) (List.getElem?_eq_getElem hj)
      have hg : (fts.map V.ref).getD j .non = .ref fts[j] := by
        rw [List.getD_eq_getElem?_getD, List.getElem?_map, List.getElem?_eq_getElem hj]
        rfl
      rw [hg]
      obtain ⟨_, _, hl5, _⟩ := id ln5
      have k67 : TupK H5 H7 := fun b xs h => x6 _ _ h fun e => by rw [e, hl5] at h; exact nomatch h
      obtain ⟨ps, fi, ht, hps, hfi⟩ := hstep.k k67
      obtain ⟨e6, ts6, hl6, hp6⟩ := id ln6
      have hxs : x ∈ stepsOf s.1 s.1 := List.mem_of_getElem? hx
      refine un2 ht ⟨_, rfl, _, rfl, notIn_st hps hl6 hp6 ⟨_, rfl, ?_⟩⟩
      have hin' : ∀ y ∈ (stepsOf s.1 s.1).take (j + 1), y ∈ Lb ∨ y = x := fun y hy => by
        rw [List.take_add_one, hx] at hy
        rcases List.mem_append.mp hy with hy | hy
        · exact .inl (hin y hy)
        · exact .inr (by simpa using hy)
      have h128 := bf6.len c.k6
      by_cases hm2 : x ∈ Lb
      · rw [if_neg (by simp [hm2])]
        refine nx _ _ ⟨Lb, _, _, rfl, ln6, bf6, hs6, hlt6, fun y hy => ?_, x6⟩
        rcases hin' y hy with h | h
        · exact h
        · exact h ▸ hm2
      · rw [if_pos (by simp [hm2])]
        have hlen6 := hp6.length
        refine ⟨_, rfl, tyL hl6, _, rfl, LL, rfl, _, hl6, small (by rw [List.length_map]; omega), ?_⟩
        refine nx _ _ ⟨Lb ++ [x], _, _, rfl, ln6.push hLL hl6 hps, bf6.add hs6 hxs hm2, by rw [List.getElem?_append_left hlt6]; exact hs6, by rw [List.length_append]; omega, fun y hy => ?_, x6.trans (SameX.upd (SameX.refl LL H7))⟩
        rcases hin' y hy with h | h
        · exact List.mem_append_left _ h
        · exact List.mem_append_right _ (List.mem_singleton.mpr h)
    · rintro σ H6 ⟨Lb, w5, w6, rfl, ln6, bf6, hs6, hlt6, hin, x6⟩
      walk_at "rd"
      refine hN2 (m - 1) _ _ (by omega) ⟨at_ + 1, Lb, w5, w6, by simp, ln6, bf6.next hs6 fun x hx => hin x ?_, by omega, by omega⟩
      rw [List.length_map, hfp.length, List.take_length]
      exact hx
end
end G


set_option Elab.async false
set_option linter.all false
set_option maxRecDepth 100000
set_option maxHeartbeats 4000000
/-! Keys of seam states hash apart. -/
namespace G
open PySem PySem.Spec PyProof.Rows L2
def hS (wd : Nat) (s : StS) : Int := reduceHash (Builtin.Tuple.tupleHashOf [reduceHash (Builtin.Tuple.tupleHashOf (s.1.map hashInt)), if s.2 = true then reduceHash (Builtin.Tuple.tupleHashOf ((zeros wd).map hashInt)) else reduceHash 0xFCA86420])
theorem hashAll_nums (w : World) : ∀ xs : List Int, NestedKey.hashes w (xs.map .num) = xs.map hashInt
  | [] => rfl
  | x :: xs => by
    rw [List.map_cons, List.map_cons, ← hashAll_nums w xs]
    rfl
theorem hash_kS (w : World) (wd : Nat) (s : StS) : (kS wd s).hash w = hS wd s := by
  obtain ⟨l, b⟩ := s
  cases b with
  | false =>
    show reduceHash (Builtin.Tuple.tupleHashOf [reduceHash (Builtin.Tuple.tupleHashOf (NestedKey.hashes w (l.map .num))), _]) = _
    rw [hashAll_nums]
    rfl
  | true =>
    show reduceHash (Builtin.Tuple.tupleHashOf [reduceHash (Builtin.Tuple.tupleHashOf (NestedKey.hashes w (l.map .num))), reduceHash (Builtin.Tuple.tupleHashOf (NestedKey.hashes w ((zeros wd).map .num)))]) = _
    rw [hashAll_nums, hashAll_nums]
    rfl
def litF : List Int := [7934259996638265555, 927598965762637515, 123472060614064473, 5967770141095707707, 7015877031909922729, 5163643235947134665, 4126803823674814022, -4395606736870822820,
  3789758933809996137, 1209233925796960500, 1050195715251484980, -4554644947416298340, 1175052633050980816, -6236573054291716505, -6395611264837192025, -4535720071807448061, 5513724395734868955,
  -4893942776290165523, -654623603851272915, -8274244908972508262, 996604157374808421, -9078371814121081304, -4839052641682188696, -5572559484079768704, 2690705835238876346, 4860062445809633777,
  9099381618248526385, 1512162726491923871, 8102937473824119024, -6337993467291505996, -2098674294852613388, 4303497102997656490, 6641737032801208886, 1118767255396238890, -4512679409933797449,
  8305894065490197651, -7589287518357126491, 8146855854944722131, -3215166008193136910, -4569901364553427745, 2868392097212314524, 8271712772744217967, 7467585867595644925, 6464339404472883004,
  -436342001009147414, -6410867681974321430, 5072211911581739273, 3464388823207647117, -169468582278817192, -7027582348124556659, 57139862447135916, 9118306493857376664, -3897269447703038249,
  -4246298580327873552, 3327821617981864805, 3305350612662171597, -870949955015515750, 1803286563882575912, 8888008774454268487, 2501223707513598555, -6904768209870789469, 6740542879952491163,
  -5499280184912213001, 5248952295170940288]
def litT1 : List Int := [8390787000213099795, -5661903319297385070, 7582356466279225376, 6424297144670541947, 7472404035484756969, 5620170239521968905, 4583330827249648262, 3063277668794338083,
  4246285937384830377, -2732596453612573388, 1506722718826319220, 7302596841233230691, 1631579636625815056, 1222311351373444398, 5461630523812337006, -4079193068232613821, -5474135272309521758,
  -4437415772715331283, -4596453983260806803, -7817717905397674022, -5592898127685214164, -8621844810546247064, -4382525638107354456, -5116032480504934464, -1251124544170657542, -1729439839250388808,
  2509879333188503800, -5077339558568098714, 8559464477398953264, -5881466463716671756, -1642147291277779148, -2286005182062366095, 7098264036376043126, 1575294258971073130, -4056152406358963209,
  4364063686080663763, -7132760514782292251, 8603382858519556371, -2758639004618302670, -4113374360978593505, -3721110187847708061, 8728239776319052207, 7924112871170479165, -125162880587139581,
  20185002565686826, -5954340678399487190, -5915647756462651440, 3920915826782481357, 287058421296017048, -6571055344549722419, -6532362422612886669, 2528804208797354079, 7959972340946490782,
  -3789771576753039312, -3261680667078157780, 3761877616237005837, -4812780334425049638, 2259813567457410152, 2298506489394245902, 2957750711088432795, -6448241206295955229, 7197069883527325403,
  9005633509387804727, 5705479298745774528]
def litT2 : List Int := [1736253365942368567, -5270407664933259473, -6074534570081832515, -230236489600189281, 817870401214025741, -1034363394748762323, -2071202807021082966, 7853130706142831808,
  -2408247696885900851, -4988772704898936488, -5147810915444412008, 7694092495597356288, -5022953997644916172, 6012164388721938123, 5853126178176462603, 7713017371206206567, -684282234961028033,
  7354794666723489105, -6852630234547169903, -7426222251033548425, -803045090336720439, 3170365628892573324, 7409684801331465932, 6676177958933885924, -3507300795457020642, 3060413198098104917,
  2901374987552629397, -4685843904203973117, 1904930843128222036, -5489970809352546159, -8296680925548510376, -1894509527698240498, 443730402105311898, -5079239375299658098, 7736058033079857179,
  2107887434794300663, 4659449924656528137, 1948849224248825143, -5014815255904665770, -6369550612264956605, -3329614533483582464, 9119735430683177804, 1269579236899747937, 266332773776986016,
  -6634348631705044402, 5837869761039333198, -1125794719114157715, -2733617807488249871, -6367475212974714180, 5221155094889097969, -6140866768248761072, 2920299863161479676, 8351467995310616379,
  -3398275922388913715, 1528172370270335945, 1505701364950642737, -22927297076555913, -4394720066813321076, 2690002143758371499, -3696782923182298433, 5343969233142865159, 542536249256594175,
  6749457258101441627, -949054335524956700]
def litT3 : List Int := [-2717830447641716532, 8722252595192207044, 872096401408777177, -4684320303184274380, -3636213412370059358, -5488447208332847422, -6525286620605168065, 3399046892558746709,
  -6862331510469985950, 9003887555226530029, 8844849344681054509, 3240008682013271189, 8969706262480550345, 1558080575137853024, 1399042364592377504, 3258933557622121468, -5138366048545113132,
  2900710853139404006, 7140030025578296614, 3918766103441429395, -5257128903920805538, -1283718184691511775, 2955600987747380833, 2222094145349800825, -7961384609041105741, -1393670615485980182,
  -1552708826031455702, -9139927717788058216, -2549152970455863063, 1456660162138063533, 5695979334576956141, -6348593341282325597, -4010353411478773201, 8913420884825808419, 3281974219495772080,
  -2346196378789784436, 205366111072443038, -2505234589335259956, 8977845004220800747, 7623109647860509912, -7783698347067667563, -2380377671535764120, -3184504576684337162, -4187751039807099083,
  7358311628420422115, 1383785947455248099, 5820836252376451977, -7187701621072334970, 7625185047150752337, 767071281305012870, 7851793491876705445, -1533783950422605423, 3897384181726531280,
  3548355049101695977, -2925911443313749154, -2948382448633442362, 6923703674414053779, -8848803880397406175, -1764081669825713600, -8150866736766383532, 889885419558780060, -3911547564327490924,
  2295373444517356528, -5403138149109041799]
def litT4 : List Int := [3516169646880081284, 7910223401079148035, 2707739112946206865, 1549679791337523436, -4448242606483118367, 745552886188950394, -291286526083370249, -1811339684538680428,
  -628331415948188134, -7607213806945591899, -3367894634506699291, 2427979487900212180, -3243037716707203455, -3652306001959574113, 587013170479318495, 2446904363509062459, 8097991448067011347,
  9134710947661201822, 8975672737115726302, 5754408814978859083, 7979228592691318941, 4950281909830286041, 9189601082269178649, 1410064951236741816, -6125741897503676053, -6604057192583407319,
  -2364738020144514711, 8494787161808434391, 3684847124065934753, 7690660256659861349, -6516764644610797659, -7160622535395384606, 2223646683043024615, -3299323094361945381, -8930769759691981720,
  -510553667252354748, -606663083040615971, 3728765505186537860, 3767458427123373610, 2412723070763082775, -8595727541180726572, 3853622422986033696, 3049495517837460654, -4999780233920158092,
  -4854432350767331685, 571756753342189090, 7656478963913881665, -953701526550537154, -4587558932037001463, 7001071375826810686, 7039764297763646436, -2345813144535664432, 3085354987613472271,
  -8664388930086057823, -8136298020411176291, -1112739737096012674, 8759346385951483467, -2614803785875608359, -2576110863938772609, -1916866642244585716, 77856225445721051, 2322452530194306892,
  -2915013132580070609, 830861945412756017]
theorem hsF : (subs (rgI 6)).map (fun l => hS 0 (l, false)) = litF := by decide +kernel
theorem hsT1 : (subs (rgI 6)).map (fun l => hS 1 (l, true)) = litT1 := by decide +kernel
theorem hsT2 : (subs (rgI 6)).map (fun l => hS 2 (l, true)) = litT2 := by decide +kernel
theorem hsT3 : (subs (rgI 6)).map (fun l => hS 3 (l, true)) = litT3 := by decide +kernel
theorem hsT4 : (subs (rgI 6)).map (fun l => hS 4 (l, true)) = litT4 := by decide +kernel
theorem pwS {L M : List Int} (h : apartB (L ++ M) = true) : (L ++ M).Pairwise (· ≠ ·) := apartB_pw h
theorem ap1 : apartB (litF ++ litT1) = true := by decide +kernel
theorem ap2 : apartB (litF ++ litT2) = true := by decide +kernel
theorem ap3 : apartB (litF ++ litT3) = true := by decide +kernel
theorem ap4 : apartB (litF ++ litT4) = true := by decide +kernel
end G


set_option Elab.async false
set_option linter.all false
set_option maxRecDepth 100000
set_option maxHeartbeats 4000000
/-! Keys of seam states hash apart: put together. -/
namespace G
open PySem PySem.Spec PyProof.Rows L2
theorem hS_false (wd : Nat) (l : List Int) : hS wd (l, false) = hS 0 (l, false) := by
  unfold hS
  simp only [Bool.false_eq_true, if_false]
theorem map_fst {l : List (List Int)} (wd : Nat) (b : Bool) : (l.map fun x => (x, b)).map (hS wd) = l.map fun x => hS wd (x, b) := by
  induction l with
  | nil => rfl
  | cons x l ih => rw [List.map_cons, List.map_cons, List.map_cons, ih]
theorem cand_hs (wd : Nat) : (cand 6).map (hS wd) = litF ++ (subs (rgI 6)).map (fun l => hS wd (l, true)) := by
  have e : (subs (rgI 6)).map (fun x => hS wd (x, false)) = (subs (rgI 6)).map fun x => hS 0 (x, false) := List.map_congr_left fun x _ => hS_false wd x
  unfold cand
  rw [List.map_append, map_fst, map_fst, e, hsF]
theorem nodS {wd : Nat} (h1 : 1 ≤ wd) (h4 : wd ≤ 4) : ((cand 6).map (hS wd)).Pairwise (· ≠ ·) := by
  rw [cand_hs]
  match wd, h1, h4 with
  | 1, _, _ => rw [hsT1]; exact apartB_pw ap1
  | 2, _, _ => rw [hsT2]; exact apartB_pw ap2
  | 3, _, _ => rw [hsT3]; exact apartB_pw ap3
  | 4, _, _ => rw [hsT4]; exact apartB_pw ap4
theorem rgI_sub {k : Nat} (h : k ≤ 6) : (rgI k).Sublist (rgI 6) := by
  unfold rgI
  refine List.Sublist.map _ ?_
  match k, h with
  | 0, _ => decide
  | 1, _ => decide
  | 2, _ => decide
  | 3, _ => decide
  | 4, _ => decide
  | 5, _ => decide
  | 6, _ => decide
theorem nod_map {α : Type} {f : α → Int} {C : List α} (inj : (C.map f).Pairwise (· ≠ ·)) : ∀ {L : List α}, L.Nodup → (∀ x ∈ L, x ∈ C) → (L.map f).Nodup
  | [], _, _ => List.nodup_nil
  | x :: L, nd, h => by
    obtain ⟨n1, n2⟩ := List.nodup_cons.mp nd
    rw [List.map_cons]
    refine List.nodup_cons.mpr ⟨fun hx => ?_, nod_map inj n2 fun y hy => h y (List.mem_cons_of_mem _ hy)⟩
    obtain ⟨y, hy, e⟩ := List.mem_map.mp hx
    have := inj_of inj y (h y (List.mem_cons_of_mem _ hy)) x (h x (List.mem_cons_self ..)) e
    exact n1 (this ▸ hy)
theorem kvG_hash (w : World) (wd : Nat) : ∀ G : List (StS × Int), (kvG (kS wd) G).map (fun p => p.1.hash w) = (G.map (·.1)).map (hS wd)
  | [] => rfl
  | x :: G => by
    have ih := kvG_hash w wd G
    show NestedKey.hash w (kS wd x.1) :: (kvG (kS wd) G).map (fun p => p.1.hash w) = hS wd x.1 :: (G.map (·.1)).map (hS wd)
    rw [ih, hash_kS]
theorem nod_cand {wd : Nat} (w1 : 1 ≤ wd) (w4 : wd ≤ 4) (C : List StS) (hC : (C.map (hS wd)).Pairwise (· ≠ ·)) {L : List StS} (nd : L.Nodup) (h : ∀ x ∈ L, x ∈ C) : (L.map (hS wd)).Nodup := nod_map hC nd h
theorem flg_hash {k wd : Nat} {G : List (StS × Int)} (w : World) (h : FlG k G) (k6 : k ≤ 6) (w1 : 1 ≤ wd) (w4 : wd ≤ 4) : ((kvG (kS wd) G).map fun p => p.1.hash w).Nodup := by
  have hx : ∀ x ∈ G.map (·.1), x ∈ cand 6 := fun x hx => by
    obtain ⟨y, hy, rfl⟩ := List.mem_map.mp hx
    exact cand_mem ((h.1 y hy).2.trans (rgI_sub k6))
  have q := nodS w1 w4
  generalize cand 6 = C at hx q
  rw [kvG_hash]
  exact nod_cand w1 w4 C q h.2.1 hx
end G


set_option Elab.async false
set_option linter.all false
set_option maxRecDepth 100000
set_option maxHeartbeats 4000000
set_option pp.deepTerms true
set_option pp.maxSteps 100000
set_option format.width 230
namespace G
open PySem PySem.Spec PyProof.Rows L2
local macro_rules | `(tactic| walk_at "rd") => `(tactic| try simp only [cxOf_K, tSeq, tIfS, tTest, tB, tCB, tCons, tNil, tC, tVar, tOp, tUn, tAndV, tOrV, tNotV, tAnd, tOr, tNot, tIf, tChain, tRet, tRetN, tAsg, gName, tDrop, tNext, tCallS, WE, rI0, rI, rU, L2.start, tYes, tLc, tFor, gTup, gCons, gNil, tPar, tPar3, tAug, ipI, tWidth, tCall, tMeth, tMake, tFld, tRows, tTable, sFld, rMulT, rSumT, gSub, tBM, rAppend, rSetL, rExtend, rSlL, rSlQ, tCol, Int.toNat_natCast,  tSl, tNoPart, tPart, tTup, tLst, tNever, itu_g, sDPut, tDNewK, tDNewN, tDispN, rSetN, rIxN, rInN, tGetN, rGetN, iKN, iIN, iRg3, iRng3, rGetL, tAugS, tNo, rCopyN, rRep,
  List.map_cons, List.map_nil, List.length_cons, List.length_nil, List.cons_append, List.nil_append, List.replicate, Nat.reduceAdd, Nat.reduceSub, Nat.zero_add, Nat.sub_self,
  List.getElem?_cons_zero, List.getElem?_cons_succ, List.set_cons_zero, List.set_cons_succ, wipe, Option.some.injEq, exists_eq_left', exists_eq_left, V.bl.injEq, V.int.injEq, ref_inj, ty_inj, if_true, if_false, Bool.false_eq_true, Bool.true_eq_false, exists_const, exists_and_left, true_and, and_true, List.cons.injEq,
  isB_int, isB_bool, isB_tuple, isB_list, isT_at, iSq, iRg1, iRg2, iZ2, iZ3, iEn])
local macro_rules | `(tactic| walk_at "r1") => `(tactic| try simp only [cxOf_K, tSeq, tIfS, tTest, tB, tCB, tCons, tNil, tC, tVar, tOp, tUn, tAndV, tOrV, tNotV, tAnd, tOr, tNot, tIf, tChain, tRet, tRetN, tAsg, gName, tDrop, tNext, tCallS, WE, rI0, rI, rU, L2.start, tYes, gTup, gCons, gNil, tPar, tPar3, tAug, ipI, tWidth, tCall, tMeth, tMake, tFld, tRows, tTable, sFld, rMulT, rSumT, gSub, tBM, rAppend, rSetL, rExtend, rSlL, rSlQ, tCol, Int.toNat_natCast,  tSl, tNoPart, tPart, tTup, tLst, tNever, itu_g, sDPut, tDNewK, tDNewN, tDispN, rSetN, rIxN, rInN, tGetN, rGetN, iKN, iIN, iRg3, iRng3, rGetL, tAugS, tNo, rCopyN, rRep,
  List.map_cons, List.map_nil, List.length_cons, List.length_nil, List.cons_append, List.nil_append, List.replicate, Nat.reduceAdd, Nat.reduceSub, Nat.zero_add, Nat.sub_self,
  List.getElem?_cons_zero, List.getElem?_cons_succ, List.set_cons_zero, List.set_cons_succ, wipe, Option.some.injEq, exists_eq_left', exists_eq_left, V.bl.injEq, V.int.injEq, ref_inj, ty_inj, if_true, if_false, Bool.false_eq_true, Bool.true_eq_false, exists_const, exists_and_left, true_and, and_true, List.cons.injEq,
  isB_int, isB_bool, isB_tuple, isB_list, isT_at, iSq, iRg1, iRg2, iZ2, iZ3, iEn])
local macro_rules | `(tactic| walk_at "r0") => `(tactic| try simp only [cxOf_K, tIfS, tTest, tB, tCB, tCons, tNil, tC, tVar, tOp, tUn, tAndV, tOrV, tNotV, tAnd, tOr, tNot, tIf, tChain, tRet, tRetN, tAsg, gName, tDrop, tNext, tCallS, WE, rI0, rI, rU, L2.start, tYes, gTup, gCons, gNil, tPar, tPar3, tAug, ipI, tWidth, tCall, tMeth, tMake, tFld, tRows, tTable, sFld, rMulT, rSumT, gSub, tBM, rAppend, rSetL, rExtend, rSlL, rSlQ, tCol, Int.toNat_natCast,  tSl, tNoPart, tPart, tTup, tLst, tNever, itu_g, sDPut, tDNewK, tDNewN, tDispN, rSetN, rIxN, rInN, tGetN, rGetN, iKN, iIN, iRg3, iRng3, rGetL, tAugS, tNo, rCopyN, rRep,
  List.map_cons, List.map_nil, List.length_cons, List.length_nil, List.cons_append, List.nil_append, List.replicate, Nat.reduceAdd, Nat.reduceSub, Nat.zero_add, Nat.sub_self,
  List.getElem?_cons_zero, List.getElem?_cons_succ, List.set_cons_zero, List.set_cons_succ, wipe, Option.some.injEq, exists_eq_left', exists_eq_left, V.bl.injEq, V.int.injEq, ref_inj, ty_inj, if_true, if_false, Bool.false_eq_true, Bool.true_eq_false, exists_const, exists_and_left, true_and, and_true, List.cons.injEq,
  isB_int, isB_bool, isB_tuple, isB_list, isT_at, iSq, iRg1, iRg2, iZ2, iZ3, iEn])
local macro_rules | `(tactic| walk_at "st") => `(tactic| ((try dsimp only); rw [tSeq_def]))
local macro_rules | `(tactic| walk_at "lp") => `(tactic| first | rw [tFor_def] | rw [tLc_def] | rw [tWhile_def])
local macro_rules | `(tactic| walk_at "ex") => `(tactic| simp only [List.cons.injEq, and_true, true_and, and_assoc, exists_and_left, exists_eq_left', exists_eq_left, exists_eq_right, exists_const, V.int.injEq, V.bl.injEq, ref_inj, Bool.not_true, Bool.not_false, Bool.false_eq_true, if_true, if_false, Bool.true_eq_false])
section
variable {P : Program} {w : World} {K : PySem.W.Frag} {mg : Str → Option Value} {base : Heap} {a : Ad}
/-- what the top has written of Seamed -/
structure TxSe (K : PySem.W.Frag) (C : Addr) : Prop where
  cl : Cls K C
  nP : NoAttr K C "plan"
  nF : NoAttr K C "floors"
/-- what one may rely on in what Seamed(plan, floors) made -/
def SeAt (P : Program) (w : World) (C : Addr) (H : Hp) (v : V) (xs : List V) (kvs : List (NestedKey × V)) : Prop := ∃ x dx kt fl, v = .ref x ∧ H x = some (.ins C dx [("plan", .ref kt), ("floors", .ref fl)]) ∧ H kt = some (.lst xs) ∧ DN P w H fl kvs
theorem SeAt.same {P : Program} {w : World} {C : Addr} {H H' : Hp} {v : V} {xs : List V} {kvs : List (NestedKey × V)} (h : SeAt P w C H v xs kvs) (e : Same H H') : SeAt P w C H' v xs kvs :=
  let ⟨x, dx, kt, fl, h1, h2, h3, h4⟩ := h
  ⟨x, dx, kt, fl, h1, e _ _ h2, e _ _ h3, h4.same e⟩
def spSi (P : Program) (w : World) (C : Addr) : Sp := fun vs H Q _ => ∃ (x dx kp d : Addr) (xs : List V) (kvs : List (NestedKey × V)), vs = [.ref x, .ref kp, .ref d] ∧ H x = some (.ins C dx []) ∧ H kp = some (.lst xs) ∧ DN P w H d kvs ∧ (kvs.map fun p => p.1.hash w).Nodup ∧
  ∀ H' kt fl, (∀ b o, H b = some o → b ≠ x → H' b = some o) → H' x = some (.ins C dx [("plan", .ref kt), ("floors", .ref fl)]) → H' kt = some (.lst xs) → DN P w H' fl kvs → Q .non H'
abbrev N_Seamed___init__ : List Str := ["self", "plan", "floors"]
theorem ok_sei (D : DefI K mg "Seamed" a.CSe "Seamed.__init__" 35) (T : Txt K mg a) (Ts : TxSe K a.CSe) : MkX P w K mg base 1 "Seamed" a.CSe (spSi P w a.CSe) := by
  obtain ⟨f, fd, F, mk, hm⟩ := D.ex
  refine ⟨f, fd, ["self", "plan", "floors"], mk, hm, ?_, F.binds fun _ _ _ _ _ _ us hl => match us, hl with | [_, _, _], _ => rfl⟩
  refine fnx (N := N_Seamed___init__) F (by decide +kernel) (fun vs H Q E h => ?_) (fun cdv A outer s H vs Q E hr nd tk pn h => ⟨_, (pss_cons (ps_fld (pv 0) (pe_callTy call_list_of (by rfl) T.list bi_list (pa_cons (pv 1) pa_nil)) rfl)
      (pss_one (ps_fld (pv 0) (pe_callTy (copyN (P := P) (w := w) rfl rfl hr.units) (by rfl) T.dict bi_dict (pa_cons (pv 2) pa_nil)) rfl))), ?_⟩)
  · obtain ⟨_, _, _, _, _, _, rfl, _⟩ := h
    rfl
  · obtain ⟨x, dx, kp, d, xs, kvs, rfl, hx, hk, hd, hn, q⟩ := h
    clear tk pn nd hr
    walk_at "r1"
    refine ⟨xs, .inl (SqL.of hk), fun kt hkt => ?_⟩
    have e1 : Same H (upd H kt (.lst xs)) := same_new (Same.refl _) hkt
    have h1 : upd H kt (.lst xs) kt = some (.lst xs) := upd_same
    generalize upd H kt (.lst xs) = H1 at e1 h1 ⊢
    have hx1 := e1 _ _ hx
    have ne : kt ≠ x := fun z => by rw [z, hx1] at h1; exact nomatch h1
    have d1 : DN P w (upd H1 x (.ins a.CSe dx (putF "plan" (.ref kt) []))) d kvs := by
      have z := hd.same e1
      obtain ⟨ob, ho⟩ := z.raw
      exact z.kx (fun e => by rw [e, hx1] at ho; exact nomatch ho) (fun ys e => by rw [hx1] at e; exact nomatch e) ((SameX.refl _ _).upd)
    refine ⟨a.CSe, dx, [], hx1, Ts.cl, Ts.nP, by decide, kvs, d1, hn, fun fl H' hfl e2 d2 => ?_⟩
    have hx2 : H' x = some (.ins a.CSe dx (putF "plan" (.ref kt) [])) := e2 _ _ upd_same
    refine ⟨a.CSe, dx, _, hx2, Ts.cl, Ts.nF, (by show 1 < 1000; decide), ?_⟩
    refine q _ kt fl (fun b o hb hne => ?_) upd_same ?_ ?_
    · rw [upd_ne hne]
      exact e2 _ _ (by rw [upd_ne hne]; exact e1 _ _ hb)
    · rw [upd_ne ne]
      exact e2 _ _ (by rw [upd_ne ne]; exact h1)
    · obtain ⟨ob, ho⟩ := d2.raw
      exact d2.kx (fun e => by rw [e, hx2] at ho; exact nomatch ho) (fun ys e => by rw [hx2] at e; exact nomatch e) ((SameX.refl _ _).upd)
/-- Seamed(plan, floors), as an expression -/
def tSeamed (P : Program) (w : World) (C : Addr) (t : TA) : TE := fun σ H Q => t σ H fun vs H1 => ∃ (kp d : Addr) (xs : List V) (kvs : List (NestedKey × V)), vs = [.ref kp, .ref d] ∧ H1 kp = some (.lst xs) ∧ DN P w H1 d kvs ∧ (kvs.map fun p => p.1.hash w).Nodup ∧
  ∀ v H', Same H1 H' → SeAt P w C H' v xs kvs → Q v H'
theorem pe_mkSeamed {X : Cx} {k j : Nat} {C : Addr} {x : Str} {p pos : Pos} {e : Expr} {es : List Expr} {t : TA} (c : MkX X.prog X.w X.K X.mg X.base k x C (spSi P w C)) (hP : X.prog = P) (hw : X.w = w) (hr : Room j X.A) (hk : k + 1 ≤ j) (ha : PA X (e :: es) t) (hg : Gl X x := by rfl)
    (hdb : (x == ("__debug__" : Str)) = false := by decide) (he : starEach (e :: es) X.env = (false, eval e X.env) :: starEach es X.env := by rfl) (hpl : (backTo pos (starEach es X.env)).any (·.1) = false := by rfl) :
    PE X (.Call (.Name x p) (e :: es) [] pos) (tSeamed P w C t) := by
  obtain ⟨f, fd, ps, M, hm, F, b⟩ := c.ex
  refine ⟨fun pins s σ H Q I h => ?_⟩
  refine wpAny_Call_Name_kw (ld_glob I hg hm ?_ hdb)
  refine PySem.W.callWith_K (h₀ := X.base) I.ok.mod.kin M.kp (thn (ha.run pos pins s σ H _ I h) fun us s1 ⟨vs, H1, I1, r, q⟩ => ⟨I1.kIn, ?_⟩) he hpl
  refine run_make (dvs := []) M F (hr.mono hk) b .nil passL I1 r fun x dx nx ndx nex => ?_
  obtain ⟨kp, d, xs, kvs, rfl, hkp, hd, hn, q⟩ := q
  have s0 : Same H1 (upd (upd H1 dx (.own x)) x (.ins C dx [])) := fun b o e => by
    rw [upd_ne (ne_of_none e nx), upd_ne (ne_of_none e ndx)]
    exact e
  refine ⟨x, dx, kp, d, xs, kvs, rfl, upd_same, s0 _ _ hkp, hd.same s0, hn, fun H' kt fl k hx hkt hfl => ⟨rfl, ?_⟩⟩
  exact q _ H' (fun b o e => k b o (s0 b o e) (ne_of_none e nx)) ⟨x, dx, kt, fl, rfl, hx, hkt, hfl⟩
end
end G


set_option Elab.async false
set_option linter.all false
set_option maxRecDepth 100000
set_option maxHeartbeats 4000000
set_option pp.deepTerms true
set_option pp.maxSteps 100000
set_option format.width 230
namespace G
open PySem PySem.Spec PyProof.Rows L2
local macro_rules | `(tactic| walk_at "rd") => `(tactic| try simp only [cxOf_K, tSeq, tIfS, tTest, tB, tCB, tCons, tNil, tC, tVar, tOp, tUn, tAndV, tOrV, tNotV, tAnd, tOr, tNot, tIf, tChain, tRet, tRetN, tAsg, gName, tDrop, tNext, tCallS, WE, rI0, rI, rU, L2.start, tYes, tLc, tFor, gTup, gCons, gNil, tPar, tPar3, tAug, ipI, tWidth, tCall, tMeth, tMake, tFld, tRows, tTable, sFld, rMulT, rSumT, gSub, tBM, rAppend, rSetL, rExtend, rSlL, rSlQ, tCol, Int.toNat_natCast,  tSl, tNoPart, tPart, tTup, tLst, tNever, itu_g, sDPut, tDNewK, tDNewN, tDispN, rSetN, rIxN, rInN, tGetN, rGetN, iKN, iIN, iRg3, iRng3, rGetL, tAugS, tNo, rCopyN, rRep,
  List.map_cons, List.map_nil, List.length_cons, List.length_nil, List.cons_append, List.nil_append, List.replicate, Nat.reduceAdd, Nat.reduceSub, Nat.zero_add, Nat.sub_self,
  List.getElem?_cons_zero, List.getElem?_cons_succ, List.set_cons_zero, List.set_cons_succ, wipe, Option.some.injEq, exists_eq_left', exists_eq_left, V.bl.injEq, V.int.injEq, ref_inj, ty_inj, if_true, if_false, Bool.false_eq_true, Bool.true_eq_false, exists_const, exists_and_left, true_and, and_true, List.cons.injEq,
  isB_int, isB_bool, isB_tuple, isB_list, isT_at, iSq, iRg1, iRg2, iZ2, iZ3, iEn])
local macro_rules | `(tactic| walk_at "r1") => `(tactic| try simp only [cxOf_K, tSeq, tIfS, tTest, tB, tCB, tCons, tNil, tC, tVar, tOp, tUn, tAndV, tOrV, tNotV, tAnd, tOr, tNot, tIf, tChain, tRet, tRetN, tAsg, gName, tDrop, tNext, tCallS, WE, rI0, rI, rU, L2.start, tYes, gTup, gCons, gNil, tPar, tPar3, tAug, ipI, tWidth, tCall, tMeth, tMake, tFld, tRows, tTable, sFld, rMulT, rSumT, gSub, tBM, rAppend, rSetL, rExtend, rSlL, rSlQ, tCol, Int.toNat_natCast,  tSl, tNoPart, tPart, tTup, tLst, tNever, itu_g, sDPut, tDNewK, tDNewN, tDispN, rSetN, rIxN, rInN, tGetN, rGetN, iKN, iIN, iRg3, iRng3, rGetL, tAugS, tNo, rCopyN, rRep,
  List.map_cons, List.map_nil, List.length_cons, List.length_nil, List.cons_append, List.nil_append, List.replicate, Nat.reduceAdd, Nat.reduceSub, Nat.zero_add, Nat.sub_self,
  List.getElem?_cons_zero, List.getElem?_cons_succ, List.set_cons_zero, List.set_cons_succ, wipe, Option.some.injEq, exists_eq_left', exists_eq_left, V.bl.injEq, V.int.injEq, ref_inj, ty_inj, if_true, if_false, Bool.false_eq_true, Bool.true_eq_false, exists_const, exists_and_left, true_and, and_true, List.cons.injEq,
  isB_int, isB_bool, isB_tuple, isB_list, isT_at, iSq, iRg1, iRg2, iZ2, iZ3, iEn])
local macro_rules | `(tactic| walk_at "r0") => `(tactic| try simp only [cxOf_K, tIfS, tTest, tB, tCB, tCons, tNil, tC, tVar, tOp, tUn, tAndV, tOrV, tNotV, tAnd, tOr, tNot, tIf, tChain, tRet, tRetN, tAsg, gName, tDrop, tNext, tCallS, WE, rI0, rI, rU, L2.start, tYes, gTup, gCons, gNil, tPar, tPar3, tAug, ipI, tWidth, tCall, tMeth, tMake, tFld, tRows, tTable, sFld, rMulT, rSumT, gSub, tBM, rAppend, rSetL, rExtend, rSlL, rSlQ, tCol, Int.toNat_natCast,  tSl, tNoPart, tPart, tTup, tLst, tNever, itu_g, sDPut, tDNewK, tDNewN, tDispN, rSetN, rIxN, rInN, tGetN, rGetN, iKN, iIN, iRg3, iRng3, rGetL, tAugS, tNo, rCopyN, rRep,
  List.map_cons, List.map_nil, List.length_cons, List.length_nil, List.cons_append, List.nil_append, List.replicate, Nat.reduceAdd, Nat.reduceSub, Nat.zero_add, Nat.sub_self,
  List.getElem?_cons_zero, List.getElem?_cons_succ, List.set_cons_zero, List.set_cons_succ, wipe, Option.some.injEq, exists_eq_left', exists_eq_left, V.bl.injEq, V.int.injEq, ref_inj, ty_inj, if_true, if_false, Bool.false_eq_true, Bool.true_eq_false, exists_const, exists_and_left, true_and, and_true, List.cons.injEq,
  isB_int, isB_bool, isB_tuple, isB_list, isT_at, iSq, iRg1, iRg2, iZ2, iZ3, iEn])
local macro_rules | `(tactic| walk_at "st") => `(tactic| ((try dsimp only); rw [tSeq_def]))
local macro_rules | `(tactic| walk_at "lp") => `(tactic| first | rw [tFor_def] | rw [tLc_def] | rw [tWhile_def])
local macro_rules | `(tactic| walk_at "ex") => `(tactic| simp only [List.cons.injEq, and_true, true_and, and_assoc, exists_and_left, exists_eq_left', exists_eq_left, exists_eq_right, exists_const, V.int.injEq, V.bl.injEq, ref_inj, Bool.not_true, Bool.not_false, Bool.false_eq_true, if_true, if_false, Bool.true_eq_false])
section
variable {P : Program} {w : World} {K : PySem.W.Frag} {mg : Str → Option Value} {base : Heap} {a : Ad}
theorem prB_up {H H' : Hp} {p : V} {n : Nat} (h : prB H p n = true) (e : Same H H') : prB H' p n = true := by
  cases p with
  | ref b =>
    unfold prB at h ⊢
    cases hb : H b with
    | none => simp [hb] at h
    | some o =>
      cases o with
      | tup xs =>
        simp only [e _ _ hb]
        simp only [hb] at h
        exact h
      | _ => simp [hb] at h
  | _ => exact nomatch h
theorem PcOk.same {a : Ad} {H H' : Hp} {v p : V} {l : Addr} {k : Nat} {one : V} {n w : Nat} (c : PcOk a H v p l k one n w) (e : Same H H') : PcOk a H' v p l k one n w :=
  ⟨c.v, c.as.same e, c.k1, c.k6, c.tb.same e, c.sh, c.kn, prB_up c.pr e⟩
/-- a step of a plan -/
def PlAt (H : Hp) (t : Addr) (x : Int × Bool) : Prop := H t = some (.tup [.int x.1, .bl x.2])
theorem PlAt.k {H H' : Hp} {t : Addr} {x : Int × Bool} (h : PlAt H t x) (e : TupK H H') : PlAt H' t x := e _ _ h
/-- a plan of k steps -/
def PlanOk (k : Nat) (pl : List (Int × Bool)) : Prop := pl.length = k ∧ ∀ x ∈ pl, 0 ≤ x.1 ∧ x.1 < (k : Nat)
/-- a step that was found, and the state behind it -/
def StepSt (wd : Nat) (s : StS) (H : Hp) (x y : Option V) : Prop := ∃ stp bh i b, x = some (.ref stp) ∧ y = some (.ref bh) ∧ PlAt H stp (i, b) ∧ i ∈ s.1 ∧ StAt wd H bh (nxt s i)
theorem StepSt.same {wd : Nat} {s : StS} {H H' : Hp} {x y : Option V} (h : StepSt wd s H x y) (e : Same H H') : StepSt wd s H' x y :=
  let ⟨stp, bh, i, b, h1, h2, h3, h4, h5⟩ := h
  ⟨stp, bh, i, b, h1, h2, h3.k (tupS e), h4, h5.k (tupS e)⟩
/-- best_seams(pieces, prices) -/
def spBs (P : Program) (w : World) (a : Ad) : Sp := fun vs H Q E => ∃ v p, vs = [v, p] ∧ PreP a H E v p fun l k one n wd => ∀ z H' (ts : List Addr) pl kvs, Same H H' → SeAt P w a.CSe H' z (ts.map V.ref) kvs → Paired (PlAt H') ts pl → PlanOk k pl → Q z H'
abbrev N_best_seams : List Str := ["pieces", "prices", "floors", "plan", "state", "index", "is_turned", "first", "end", "late", "step", "behind", "one"]
theorem ok_best_seams (D : Def K mg "best_seams" 36) (T : Txt K mg a) (M : TabM P w K mg base a.CT) (c_check_pieces : CalX P w K mg base 3 "check_pieces" (spCk a)) (c_floors_of : CalX P w K mg base 3 "floors_of" (spFo P w a)) (c_ends_of : CalX P w K mg base 1 "ends_of" (spEo a.CT)) (c_seam : CalX P w K mg base 2 "seam" spSeam) (c_Seamed : MkX P w K mg base 1 "Seamed" a.CSe (spSi P w a.CSe)) : CalX P w K mg base 4 "best_seams" (spBs P w a) := by
  refine calx (N := N_best_seams) (ps := ["pieces", "prices"]) D (by decide +kernel) (fun vs H Q E h => ?_) (fun _ _ _ _ _ _ us hl => match us, hl with | [_, _], _ => rfl) (fun f cdv A outer s H vs Q E hr nd tk pn h => ⟨_, (pss_cons (ps_expr (pe_cx c_check_pieces hr (by decide) tk (pa_cons (pv 0) (pa_cons (pv 1) pa_nil))))
      (pss_cons (ps_par (i := 2) (j := 3) rfl nd rfl rfl (by decide) rfl rfl (pa_cons (pe_cx c_floors_of hr (by decide) tk (pa_cons (pv 0) (pa_cons (pv 1) pa_nil))) (pa_cons (pe_lst pa_nil) pa_nil)) (by rfl))
      (pss_cons (ps_set (i := 4) nd rfl (Or.inl rfl) (pe_tup (pa_cons (pe_tupRg rfl (by rfl) T.tuple (prg_1 (by rfl) T.range (pe_callB (call_lenK (K := K) rfl M hr (by decide)) (by rfl) T.len bi_len (pa_cons (pv 0) pa_nil)))) (pa_cons pe_non pa_nil))))
      (pss_cons (ps_while pn (pt_cmpR (opK_neD (K := K) rfl hr.units) (pe_ix (ixK (K := K) rfl) (pv 4) pe_int (fun _ _ => rfl)) (pe_tup pa_nil) (nomark _))
      (pss_cons (ps_for pn rfl (pi_sq (pe_ix (ixK (K := K) rfl) (pv 4) pe_int (fun _ _ => rfl))) (pg_name (i := 5) nd rfl (Or.inr rfl))
      (pss_one (ps_for pn rfl (pi_sq (pe_tup (pa_cons pe_bl (pa_cons pe_bl pa_nil)))) (pg_name (i := 6) nd rfl (Or.inl rfl))
      (pss_cons (ps_asg (pe_cx c_ends_of hr (by decide) tk (pa_cons (pe_ix (ixK (K := K) rfl) (pv 0) (pv 5) (fun _ _ => rfl)) (pa_cons (pv 6) pa_nil))) (pg_tupK (K := K) (n := 2) rfl rfl (pgs_cons (pg_name (i := 7) nd rfl (Or.inl rfl)) (pgs_cons (pg_name (i := 8) nd rfl (Or.inl rfl)) pgs_nil))))
      (pss_cons (ps_set (i := 9) nd rfl (Or.inl rfl) (pe_tup (pa_cons (pe_callTy call_tuple_of (by rfl) T.tuple bi_tuple (pa_cons (pe_lc (own := [("one", 12)]) rfl nd (pi_sq (pe_ix (ixK (K := K) rfl) (pv 4) pe_int (fun _ _ => rfl))) (blkOk_by (own := [("one", 12)]) (N := N_best_seams) (sc := defScope (top 36)) (by decide +kernel)) (fun _ _ _ _ _ => (pg_name (i := 12) nd rfl (Or.inl rfl))) (fun _ _ _ _ _ => (pts_one (pt_cmpR op_ne (pv 12) (pv 5) (nomark _)))) (fun _ _ _ _ _ => (pv 12))) pa_nil)) (pa_cons (pv 8) pa_nil))))
      (pss_one (ps_if (pt_cmpR op_eq (pe_op op_add (pe_ix (ixN' (P := P) (w := w) rfl rfl hr.units) (pv 2) (pv 9) (fun _ _ => rfl)) (pe_cx c_seam hr (by decide) tk (pa_cons (pe_ix (ixK (K := K) rfl) (pv 4) pe_int (fun _ _ => rfl)) (pa_cons (pv 7) (pa_cons (pv 1) pa_nil))))) (pe_ix (ixN' (P := P) (w := w) rfl rfl hr.units) (pv 2) (pv 4) (fun _ _ => rfl)) (nomark _))
      (pss_one (ps_par (i := 10) (j := 11) rfl nd rfl rfl (by decide) rfl rfl (pa_cons (pe_tup (pa_cons (pv 5) (pa_cons (pv 6) pa_nil))) (pa_cons (pv 9) pa_nil)) (by rfl)))
      pss_nil)))))))
      (pss_cons (ps_expr (pe_bm PySem.F.plainAttrs_list PySem.F.slot_list_append PySem.F.type_list_append mt_append (pv 3) (pa_cons (pv 10) pa_nil)))
      (pss_one (ps_set (i := 4) nd rfl (Or.inl rfl) (pv 11))))))
      (pss_one (ps_ret (pe_mkSeamed c_Seamed rfl rfl hr (by decide) (pa_cons (pv 3) (pa_cons (pv 2) pa_nil))))))))), ?_⟩)
  · obtain ⟨_, _, rfl, _⟩ := h
    rfl
  · obtain ⟨v, p, rfl, pt⟩ := h
    clear tk pn nd hr
    walk_at "st"
    walk_at "r0"
    refine preP_ck pt fun l k one n wd c q H1 e1 => ?_
    have c1 := c.same e1
    obtain rfl := c.v
    walk_at "st"
    walk_at "r0"
    refine ⟨.ref l, p, l, k, one, n, wd, rfl, c1, fun d G H2 e2 dn fg => ⟨Nat.zero_le _, fun PL hPL => ⟨_, _, ⟨rfl, rfl⟩, ?_⟩⟩⟩
    have e3 : Same H2 (upd H2 PL (.lst [])) := same_new (Same.refl H2) hPL
    have hPL3 : upd H2 PL (.lst []) PL = some (.lst ([] : List V)) := upd_same
    have dn3 := dn.same e3
    generalize upd H2 PL (.lst []) = H3 at e3 hPL3 dn3 ⊢
    have c3 := c1.same (e2.trans e3)
    walk_at "st"
    walk_at "r0"
    simp only [tTupRg, tRg1]
    walk_at "r0"
    refine len_pc c3.as ⟨_, rfl, ?_⟩
    rw [List.length_replicate]
    refine ⟨rgOk_nat c.k6, fun lt hlt => ?_⟩
    rw [rgV_nat]
    have e4 : Same H3 (upd H3 lt (.tup ((rgI k).map V.int))) := same_new (Same.refl H3) hlt
    have h4 : upd H3 lt (.tup ((rgI k).map V.int)) lt = some (.tup ((rgI k).map V.int)) := upd_same
    generalize upd H3 lt (.tup ((rgI k).map V.int)) = H4 at e4 h4 ⊢
    refine ⟨small' (by omega), fun p2 hp2 => ?_⟩
    have e5 : Same H4 (upd H4 p2 (.tup [.ref lt, .non])) := same_new (Same.refl H4) hp2
    have h5 : upd H4 p2 (.tup [.ref lt, .non]) p2 = some (.tup [.ref lt, .non]) := upd_same
    have s5 : StAt wd (upd H4 p2 (.tup [.ref lt, .non])) p2 (rgI k, false) := ⟨lt, .non, h5, e5 _ _ h4, fun _ => rfl, fun h => Bool.noConfusion h⟩
    generalize upd H4 p2 (.tup [.ref lt, .non]) = H5 at e5 h5 s5 ⊢
    have e35 := e4.trans e5
    have e25 := e3.trans e35
    have dn5 := dn.same e25
    have c5 := c3.same e35
    have hPL5 := e35 _ _ hPL3
    walk_at "st"
    walk_at "r0"
    have hdn : ∀ y, y ∈ G.map (·.1) → valV (kvG (kS wd) G) (kS wd y) = some (.int 0) := fun y hy => by
      obtain ⟨x, hx, hxe⟩ := List.mem_map.mp hy
      have hv := kvG_has (f := kS wd) (F := G) (s := y) ⟨x.2, by rw [← hxe]; exact hx⟩
      cases hval : valV (kvG (kS wd) G) (kS wd y) with
      | none => rw [hval] at hv; exact nomatch hv
      | some z =>
        obtain ⟨x2, hx2, _, rfl⟩ := kvG_val hval
        rw [(fg.1 x2 hx2).1]
    have hdPL : d ≠ PL := dn5.ne_lst hPL5
    have hPLn : ∀ xs, H5 PL ≠ some (.tup xs) := lst_nt hPL5
    have tk5 : ∀ H', SameX PL H5 H' → TupK H5 H' := fun H' x b xs h => x b _ h fun e => hPLn xs (by rw [← e]; exact h)
    refine whileW (fun m σ H' => ∃ (st : Addr) (s : StS) (ts : List Addr) (pl : List (Int × Bool)) (v5 v6 v7 v8 v9 v10 v11 v12 : Option V), σ = [some (V.ref l), some p, some (V.ref d), some (V.ref PL), some (.ref st), v5, v6, v7, v8, v9, v10, v11, v12] ∧ SameX PL H5 H' ∧ H' PL = some (.lst (ts.map V.ref)) ∧ Paired (PlAt H') ts pl ∧
      StAt wd H' st s ∧ s.1.Sublist (rgI k) ∧ s ∈ G.map (·.1) ∧ pl.length + s.1.length = k ∧ (∀ x ∈ pl, 0 ≤ x.1 ∧ x.1 < (k : Nat)) ∧ m = s.1.length) ⟨k, p2, _, [], [], none, none, none, none, none, none, none, none, rfl, SameX.refl PL H5, hPL5, .nil, s5, List.Sublist.refl _, fg.2.2.1, by simp [rgI_len], (fun x hx => nomatch hx), (rgI_len k).symm⟩ ?_
    rintro m σ H6 N ⟨st, s, ts, pl, v5, v6, v7, v8, v9, v10, v11, v12, rfl, x6, hPL6, hp6, hs6, sub, hin, hcount, hpl, rfl⟩ hN1 hN2
    obtain ⟨ls, la, hst1, hst2, hst3⟩ := id hs6
    walk_at "r0"
    refine ix_t hst1 (atI_nat (k := 0) rfl) ⟨Nat.zero_le _, fun pe hpe => ?_⟩
    have e7 := same_new (o := .tup []) (Same.refl H6) hpe
    have hpe7 : upd H6 pe (.tup []) pe = some (.tup ([] : List V)) := upd_same
    generalize upd H6 pe (.tup []) = H7 at e7 hpe7 ⊢
    have x7 := x6.same e7
    have hs7 := hs6.k (tupS e7)
    have hPL7 := e7 _ _ hPL6
    have hp7 : Paired (PlAt H7) ts pl := Paired.imp2 hp6 fun _ _ z => z.k (tupS e7)
    have dn7 := dn5.kx hdPL hPLn x7
    have hout7 : Same H2 H7 := SameX.out (e3.trans e35) x7 hPL
    refine ne_nilT (e7 _ _ hst2) (dp_ints _) (sh_intT _) hpe7 ⟨_, rfl, ?_⟩
    cases hemp : (s.1.map V.int).isEmpty with
    | true =>
      rw [if_neg (by decide)]
      have h0 : s.1.length = 0 := by
        cases hz : s.1 with
        | nil => rfl
        | cons a l => rw [hz] at hemp; exact nomatch hemp
      simp only [tSeamed]
      walk_at "r0"
      refine ⟨PL, d, ⟨rfl, rfl⟩, _, hPL7, _, dn7, flg_hash w fg c.k6 c.sh.w1 c.sh.w4, fun z H8 e8 hz => ?_⟩
      exact q z H8 ts pl _ (((e1.trans e2).trans hout7).trans e8) hz (Paired.imp2 hp7 fun _ _ z => z.k (tupS e8)) ⟨by omega, hpl⟩
    | false =>
      rw [if_pos (by decide)]
      refine ⟨N, hN1, ?_⟩
      walk_at "st"
      walk_at "lp"
      walk_at "r0"
      have hst7 := e7 _ _ hst1
      have hls7 := e7 _ _ hst2
      refine ix_t hst7 (atI_nat (k := 0) rfl) ⟨ls, rfl, false, _, sqA_t hls7, ?_⟩
      refine forB (fun j σ H' => Same H7 H' ∧ ∃ w5 w6 w7 w8 w9 w10 w11 w12, σ = [some (V.ref l), some p, some (V.ref d), some (V.ref PL), some (.ref st), w5, w6, w7, w8, w9, w10, w11, w12] ∧ (0 < j → StepSt wd s H' w10 w11)) ⟨Same.refl H7, _, _, _, _, _, _, _, _, rfl, fun h => absurd h (Nat.lt_irrefl _)⟩ (fun j σ H' _ h => sqA_t (h.1 _ _ hls7)) ?_ ?_
      · rintro j v σ H8 H9 Nx hj ⟨e8, w5, w6, w7, w8, w9, w10, w11, w12, rfl, hst8⟩ y nx
        simp only [yV] at y
        obtain ⟨rfl, rfl⟩ := y
        rw [List.length_map] at hj
        have hg : (s.1.map V.int).getD j .non = .int (s.1.getD j 0) := by
          rw [List.getD_eq_getElem?_getD, List.getElem?_map, List.getElem?_eq_getElem hj, List.getD_eq_getElem?_getD, List.getElem?_eq_getElem hj]
          rfl
        rw [hg]
        have hjin : s.1.getD j 0 ∈ s.1 := getD_mem hj
        obtain ⟨z0, z1⟩ := rgI_mem (sub.subset hjin)
        walk_at "lp"
        walk_at "r0"
        refine ⟨by decide, fun bt hbt => ⟨false, _, sqA_t upd_same, ?_⟩⟩
        have e9 := same_new (o := .tup [.bl false, .bl true]) (Same.refl H9) hbt
        have hbt9 : upd H9 bt (.tup [.bl false, .bl true]) bt = some (.tup [.bl false, .bl true]) := upd_same
        generalize upd H9 bt (.tup [.bl false, .bl true]) = H10 at e9 hbt9 ⊢
        have e710 := e8.trans e9
        refine forB (fun m σ H' => Same H10 H' ∧ ∃ w6 w7 w8 w9 w10 w11 w12, σ = [some (V.ref l), some p, some (V.ref d), some (V.ref PL), some (.ref st), some (.int (s.1.getD j 0)), w6, w7, w8, w9, w10, w11, w12] ∧ (0 < m → StepSt wd s H' w10 w11)) ⟨Same.refl H10, _, _, _, _, _, _, _, rfl, fun h => absurd h (Nat.lt_irrefl _)⟩ (fun m σ H' _ h => sqA_t (h.1 _ _ hbt9)) ?_ ?_
        · rintro m v σ H11 H12 Nx2 hm ⟨e11, w6, w7, w8, w9, w10, w11, w12, rfl, hst11⟩ y nx2
          simp only [yV] at y
          obtain ⟨rfl, rfl⟩ := y
          obtain ⟨b, hb⟩ : ∃ b, [V.bl false, V.bl true].getD m .non = .bl b := by
            match m, hm with
            | 0, _ => exact ⟨false, rfl⟩
            | 1, _ => exact ⟨true, rfl⟩
          rw [hb]
          have e712 := e710.trans e11
          have c12 := ((c1.same e2).same hout7).same e712
          walk_at "st"
          walk_at "r0"
          refine ix_pc c12.as (atI_z (v := one) z0 (by rw [List.getElem?_replicate, if_pos (by omega)])) ?_
          simp only [spEo]
          refine ⟨one, b, n, wd, rfl, c12.tb, c12.n1, fun pr fi en H13 e13 hpr hfi hen => ?_⟩
          have e713 := e712.trans e13
          have hst13 := e713 _ _ (e7 _ _ hst1)
          have hls13 := e713 _ _ hls7
          refine un2 hpr ?_
          walk_at "st"
          walk_at "r0"
          walk_at "lp"
          walk_at "r0"
          refine ix_t hst13 (atI_nat (k := 0) rfl) ⟨ls, rfl, false, _, sqA_t hls13, fun D1 hD1 => ?_⟩
          refine lcV (fun i => !decide (s.1.getD i 0 = s.1.getD j 0)) (fun i => .int (s.1.getD i 0)) hD1 (by simp; have := sub6 sub c.k6; omega) (fun H' e => sqA_t (e _ _ hls13)) (fun i v H1 H2 acc Nx hi e1 ha y k1 k2 => ?_) (fun H14 e14 h => ?_)
          · simp only [yV] at y
            obtain ⟨rfl, rfl⟩ := y
            have hgi : (s.1.map V.int).getD i .non = .int (s.1.getD i 0) := by
              rw [List.length_map] at hi
              rw [List.getD_eq_getElem?_getD, List.getElem?_map, List.getElem?_eq_getElem hi, List.getD_eq_getElem?_getD, List.getElem?_eq_getElem hi]
              rfl
            rw [hgi]
            refine ⟨rfl, _, rfl, ?_⟩
            rw [int_eq]
            cases hd : decide (s.1.getD i 0 = s.1.getD j 0) with
            | true =>
              rw [if_neg (by decide)]
              exact k2 (by rw [hd]; rfl) _ (Same.refl _)
            | false =>
              rw [if_pos (by decide)]
              exact k1 (by rw [hd]; rfl) _ (Same.refl _)
          · rw [show (s.1.map V.int).length = s.1.length by simp, kept_filter (p := fun x => !decide (x = s.1.getD j 0)) (f := V.int)] at h
            refine ⟨_, .inl ⟨SqL.of h, fun rt hrt => ?_⟩⟩
            have e15 := e14.trans (same_new (o := .tup ((s.1.filter fun x => !decide (x = s.1.getD j 0)).map V.int)) (Same.refl H14) hrt)
            have hrt1 : upd H14 rt (.tup ((s.1.filter fun x => !decide (x = s.1.getD j 0)).map V.int)) rt = some (.tup ((s.1.filter fun x => !decide (x = s.1.getD j 0)).map V.int)) := upd_same
            generalize upd H14 rt _ = H15 at e15 hrt1 ⊢
            refine ⟨by decide, fun lp hlp => ?_⟩
            have e16 := same_new (o := .tup [.ref rt, .ref en]) (Same.refl H15) hlp
            have hlp1 : upd H15 lp (.tup [.ref rt, .ref en]) lp = some (.tup [.ref rt, .ref en]) := upd_same
            generalize upd H15 lp (.tup [.ref rt, .ref en]) = H16 at e16 hlp1 ⊢
            have e1316 := e15.trans e16
            have e716 := e713.trans e1316
            have hlate : StAt wd H16 lp (nxt s (s.1.getD j 0)) := ⟨rt, .ref en, hlp1, e16 _ _ hrt1, fun h => Bool.noConfusion h, fun _ => ⟨en, rfl, e1316 _ _ hen⟩⟩
            have hs16 := hs7.k (tupS e716)
            have dn16 := dn7.same e716
            obtain ⟨gx, hgx, rfl⟩ := List.mem_map.mp hin
            have hkl : nxt gx.1 (gx.1.1.getD j 0) ∈ G.map (·.1) := fg.2.2.2 gx hgx _ (stepsOf_mem.mpr ⟨_, hjin, rfl⟩)
            have hst16 := e1316 _ _ hst13
            obtain ⟨prs, hprs, _⟩ := prB_of c12.pr
            walk_at "r0"
            have hla := hst3.k (tupS (e7.trans e716))
            refine ⟨_, keyS hlate, _, dn16, _, hdn _ hkl, ix_t hst16 (atI_nat (k := 1) rfl) ⟨la, .ref fi, p, prs, wd, gx.1.2, rfl, hla.1, hla.2, ⟨fi, rfl, e1316 _ _ hfi⟩, hprs.same (e13.trans e1316), c.sh.w4, fun H17 e17 => ?_⟩⟩
            refine ⟨0, rfl, 0, rfl, _, keyS (hs16.k (tupS e17)), _, dn16.same e17, _, hdn _ hin, rfl, _, rfl, ?_⟩
            rw [if_pos (by simp)]
            refine ⟨by decide, fun sp hsp => ⟨_, _, ⟨rfl, rfl⟩, ?_⟩⟩
            have e18 := same_new (o := .tup [.int (gx.1.1.getD j 0), .bl b]) (Same.refl H17) hsp
            exact nx2 _ _ ⟨((e11.trans e13).trans e1316).trans (e17.trans e18), _, _, _, _, _, _, _, rfl, fun _ => ⟨sp, lp, _, b, rfl, rfl, upd_same, hjin, hlate.k (tupS (e17.trans e18))⟩⟩
        · rintro σ H11 ⟨e11, w6, w7, w8, w9, w10, w11, w12, rfl, hst11⟩
          exact nx _ _ ⟨e710.trans e11, _, _, _, _, _, _, _, _, rfl, fun _ => hst11 (by decide)⟩
      · rintro σ H8 ⟨e8, w5, w6, w7, w8, w9, w10, w11, w12, rfl, hst8⟩
        have h0 : 0 < (s.1.map V.int).length := by
          cases hz : s.1.map V.int with
          | nil => rw [hz] at hemp; exact nomatch hemp
          | cons a l => simp
        obtain ⟨stp, bh, i, b, rfl, rfl, hpa, hi, hbh⟩ := hst8 h0
        have hPL8 := e8 _ _ hPL7
        have hlt : ts.length < 100000 := by
          have := hp7.length
          have := c.k6
          omega
        walk_at "rd"
        refine ⟨tyL hPL8, _, hPL8, small (by rw [List.length_map]; omega), ?_⟩
        have kt : TupK H8 (upd H8 PL (.lst (ts.map V.ref ++ [.ref stp]))) := tupK_lst hPL8
        have hnl : (nxt s i).1.length + 1 = s.1.length := nxt_len ((rgI_nodup k).sublist sub) hi
        obtain ⟨gx, hgx, rfl⟩ := List.mem_map.mp hin
        refine hN2 (nxt gx.1 i).1.length _ _ (by omega) ⟨bh, nxt gx.1 i, ts ++ [stp], pl ++ [(i, b)], _, _, _, _, _, _, _, _, rfl, (x7.same e8).trans (SameX.upd (SameX.refl PL H8)), by rw [upd_same, List.map_append]; rfl, ?_, hbh.k kt, nxt_sub i sub, fg.2.2.2 gx hgx _ (stepsOf_mem.mpr ⟨i, hi, rfl⟩), ?_, ?_, rfl⟩
        · exact paired_snoc (Paired.imp2 hp7 fun _ _ z => (z.k (tupS e8)).k kt) (hpa.k kt)
        · rw [List.length_append, List.length_singleton]
          omega
        · intro x hx
          rcases List.mem_append.mp hx with hx | hx
          · exact hpl x hx
          · rw [List.mem_singleton] at hx
            subst hx
            exact rgI_mem (sub.subset hi)
/-- least_seams(pieces, prices) -/
def spLs (a : Ad) : Sp := fun vs H Q E => ∃ v p, vs = [v, p] ∧ PreP a H E v p fun l k one n wd => ∀ z H', Same H H' → Q z H'
abbrev N_least_seams : List Str := ["pieces", "prices"]
theorem ok_least_seams (D : Def K mg "least_seams" 37) (T : Txt K mg a) (M : TabM P w K mg base a.CT) (c_check_pieces : CalX P w K mg base 3 "check_pieces" (spCk a)) (c_floors_of : CalX P w K mg base 3 "floors_of" (spFo P w a)) : CalX P w K mg base 4 "least_seams" (spLs a) := by
  refine calx (N := N_least_seams) (ps := ["pieces", "prices"]) D (by decide +kernel) (fun vs H Q E h => ?_) (fun _ _ _ _ _ _ us hl => match us, hl with | [_, _], _ => rfl) (fun f cdv A outer s H vs Q E hr nd tk pn h => ⟨_, (pss_cons (ps_expr (pe_cx c_check_pieces hr (by decide) tk (pa_cons (pv 0) (pa_cons (pv 1) pa_nil))))
      (pss_one (ps_ret (pe_ix (ixN' (P := P) (w := w) rfl rfl hr.units) (pe_cx c_floors_of hr (by decide) tk (pa_cons (pv 0) (pa_cons (pv 1) pa_nil))) (pe_tup (pa_cons (pe_tupRg rfl (by rfl) T.tuple (prg_1 (by rfl) T.range (pe_callB (call_lenK (K := K) rfl M hr (by decide)) (by rfl) T.len bi_len (pa_cons (pv 0) pa_nil)))) (pa_cons pe_non pa_nil))) (fun _ _ => rfl))))), ?_⟩)
  · obtain ⟨_, _, rfl, _⟩ := h
    rfl
  · obtain ⟨v, p, rfl, pt⟩ := h
    clear tk pn nd hr
    walk_at "st"
    walk_at "r0"
    refine preP_ck pt fun l k one n wd c q H1 e1 => ?_
    have c1 := c.same e1
    obtain rfl := c.v
    walk_at "r0"
    refine ⟨.ref l, p, l, k, one, n, wd, rfl, c1, fun d G H2 e2 dn fg => ?_⟩
    simp only [tTupRg, tRg1]
    walk_at "r0"
    refine len_pc (c1.same e2).as ⟨_, rfl, ?_⟩
    rw [List.length_replicate]
    refine ⟨rgOk_nat c.k6, fun lt hlt => ?_⟩
    rw [rgV_nat]
    have e4 : Same H2 (upd H2 lt (.tup ((rgI k).map V.int))) := same_new (Same.refl H2) hlt
    have h4 : upd H2 lt (.tup ((rgI k).map V.int)) lt = some (.tup ((rgI k).map V.int)) := upd_same
    generalize upd H2 lt (.tup ((rgI k).map V.int)) = H4 at e4 h4 ⊢
    refine ⟨small' (by omega), fun p2 hp2 => ?_⟩
    have e5 : Same H4 (upd H4 p2 (.tup [.ref lt, .non])) := same_new (Same.refl H4) hp2
    have s5 : StAt wd (upd H4 p2 (.tup [.ref lt, .non])) p2 (rgI k, false) := ⟨lt, .non, upd_same, e5 _ _ h4, fun _ => rfl, fun h => Bool.noConfusion h⟩
    generalize upd H4 p2 (.tup [.ref lt, .non]) = H5 at e5 s5 ⊢
    obtain ⟨x, hx, hxe⟩ := List.mem_map.mp fg.2.2.1
    have hv := kvG_has (f := kS wd) (F := G) (s := (rgI k, false)) ⟨x.2, by rw [← hxe]; exact hx⟩
    cases hval : valV (kvG (kS wd) G) (kS wd (rgI k, false)) with
    | none => rw [hval] at hv; exact nomatch hv
    | some z =>
      exact ⟨_, keyS s5, _, dn.same (e4.trans e5), _, hval, q z _ (((e1.trans e2).trans e4).trans e5)⟩
end
end G


set_option Elab.async false
set_option linter.all false
set_option maxRecDepth 100000
set_option maxHeartbeats 4000000
/-! list.extend(tuple). -/
namespace PySem.GExt
open PySem PySem.Calls PyProof.Rows
theorem ext_meets (l b : Addr) (xs ys : Array Value) (n m : Nat) (dd : Option Addr) (sl : Array (Option Value)) (hno : ¬(!xs.isEmpty && Builtin.List.listTooLong (xs.size + ys.size)) = true) (hx : xs.size ≤ sizeLine) (hxy : xs.size + ys.size ≤ sizeLine + 1) :
    Meets (Builtin.«list.extend» ⟨[.ref l, .ref b], []⟩) (fun _ R s => s.heap.get? l = some ({ cls := .type "list", data := .seq xs n } : Obj) ∧ s.heap.get? b = some ({ cls := .type "tuple", dict := dd, data := .seq ys m, slots := sl } : Obj) ∧
      R (.ok (.ret Value.none)) { s with heap := s.heap.update l (Obj.mapSeq fun v => v ++ ys), toks := s.toks }) :=
  .of_wp fun prog w A R s h => by
    obtain ⟨hp, g, d, tk, os⟩ := s
    obtain ⟨ol, ob, q⟩ := h
    have g1 := AutoSeq1.idx_int
    have g2 := AutoSeq1.sub_tuple_tuple
    have g3 := AutoSeq1.sub_list_list
    have g4 := AutoSeq1.sub_tuple_list
    have g5 := AutoSeq1.sub_list_tuple
    have fits : (xs ++ ys).size ≤ sizeLine + 1 := by
      rw [Array.size_append]
      exact hxy
    wp_walk using (wpAny_updateSeq ol rfl (hz := hx) (_hz' := fits)), AutoSeq1.wpAny_loadPart' ol, AutoSeq1.wpAny_loadPart' ob
    exact ⟨_, rfl, q⟩
end PySem.GExt
namespace G
open PySem PySem.Spec PyProof.Rows L2
def rExtT : V → List V → Hp → VK → Prop := fun x vs H Q => ∃ l b xs zs, x = .ref l ∧ vs = [.ref b] ∧ H l = some (.lst xs) ∧ H b = some (.tup zs) ∧ xs.length + zs.length ≤ sizeLine ∧ Q .non (upd H l (.lst (xs ++ zs)))
theorem mt_extT {X : Cx} : MtM X "list.extend" rExtT := by
  intro pins s σ H x vs v us Q I rx rv h
  obtain ⟨l, b, xs, zs, rfl, rfl, hH, hB, hz, q⟩ := h
  cases rx
  obtain ⟨u, rfl, ru⟩ := rv.one
  cases ru
  obtain ⟨_, its, n, r, hl, e⟩ := I.lstM hH
  obtain ⟨jts, r2, ⟨⟨oc, dd, od, sl⟩, eb, hc, m, hd⟩, _⟩ := I.tuple (SqT.of hB)
  dsimp only at hc hd
  subst hc hd
  have hl2 := r2.length
  have small2 : its.toArray.size + jts.toArray.size ≤ sizeLine := by
    rw [List.size_toArray, List.size_toArray]
    omega
  have no : ¬ (!its.toArray.isEmpty && Builtin.List.listTooLong (its.toArray.size + jts.toArray.size)) = true := by
    rw [notLongL small2]
    simp
  refine call_meets F.slot_list_extend ⟨_, e, rfl⟩ F.entry_list_extend (F.args_list_extend_2 _ _) (PySem.GExt.ext_meets l b its.toArray jts.toArray n m dd sl no (by omega) (by omega)) ⟨e, eb, ?_⟩
  exact ⟨.non, _, I.lset (its' := its ++ jts) hH e (by simp) (r.append r2) (by rw [List.length_append]; omega), rfl, q⟩
end G


set_option Elab.async false
set_option linter.all false
set_option maxRecDepth 100000
set_option maxHeartbeats 4000000
set_option pp.deepTerms true
set_option pp.maxSteps 100000
set_option format.width 230
namespace G
open PySem PySem.Spec PyProof.Rows L2
local macro_rules | `(tactic| walk_at "rd") => `(tactic| try simp only [cxOf_K, tSeq, tIfS, tTest, tB, tCB, tCons, tNil, tC, tVar, tOp, tUn, tAndV, tOrV, tNotV, tAnd, tOr, tNot, tIf, tChain, tRet, tRetN, tAsg, gName, tDrop, tNext, tCallS, WE, rI0, rI, rU, L2.start, tYes, tLc, tFor, gTup, gCons, gNil, tPar, tPar3, tAug, ipI, tWidth, tCall, tMeth, tMake, tFld, tRows, tTable, sFld, rMulT, rSumT, gSub, tBM, rAppend, rSetL, rExtend, rSlL, rSlQ, tCol, Int.toNat_natCast,  tSl, tNoPart, tPart, tTup, tLst, tNever, itu_g, sDPut, tDNewK, tDNewN, tDispN, rSetN, rIxN, rInN, tGetN, rGetN, iKN, iIN, iRg3, iRng3, rGetL, tAugS, tNo, rCopyN, rRep,
  List.map_cons, List.map_nil, List.length_cons, List.length_nil, List.cons_append, List.nil_append, List.replicate, Nat.reduceAdd, Nat.reduceSub, Nat.zero_add, Nat.sub_self,
  List.getElem?_cons_zero, List.getElem?_cons_succ, List.set_cons_zero, List.set_cons_succ, wipe, Option.some.injEq, exists_eq_left', exists_eq_left, V.bl.injEq, V.int.injEq, ref_inj, ty_inj, if_true, if_false, Bool.false_eq_true, Bool.true_eq_false, exists_const, exists_and_left, true_and, and_true, List.cons.injEq,
  isB_int, isB_bool, isB_tuple, isB_list, isT_at, iSq, iRg1, iRg2, iZ2, iZ3, iEn])
local macro_rules | `(tactic| walk_at "r1") => `(tactic| try simp only [cxOf_K, tSeq, tIfS, tTest, tB, tCB, tCons, tNil, tC, tVar, tOp, tUn, tAndV, tOrV, tNotV, tAnd, tOr, tNot, tIf, tChain, tRet, tRetN, tAsg, gName, tDrop, tNext, tCallS, WE, rI0, rI, rU, L2.start, tYes, gTup, gCons, gNil, tPar, tPar3, tAug, ipI, tWidth, tCall, tMeth, tMake, tFld, tRows, tTable, sFld, rMulT, rSumT, gSub, tBM, rAppend, rSetL, rExtend, rSlL, rSlQ, tCol, Int.toNat_natCast,  tSl, tNoPart, tPart, tTup, tLst, tNever, itu_g, sDPut, tDNewK, tDNewN, tDispN, rSetN, rIxN, rInN, tGetN, rGetN, iKN, iIN, iRg3, iRng3, rGetL, tAugS, tNo, rCopyN, rRep,
  List.map_cons, List.map_nil, List.length_cons, List.length_nil, List.cons_append, List.nil_append, List.replicate, Nat.reduceAdd, Nat.reduceSub, Nat.zero_add, Nat.sub_self,
  List.getElem?_cons_zero, List.getElem?_cons_succ, List.set_cons_zero, List.set_cons_succ, wipe, Option.some.injEq, exists_eq_left', exists_eq_left, V.bl.injEq, V.int.injEq, ref_inj, ty_inj, if_true, if_false, Bool.false_eq_true, Bool.true_eq_false, exists_const, exists_and_left, true_and, and_true, List.cons.injEq,
  isB_int, isB_bool, isB_tuple, isB_list, isT_at, iSq, iRg1, iRg2, iZ2, iZ3, iEn])
local macro_rules | `(tactic| walk_at "r0") => `(tactic| try simp only [cxOf_K, tIfS, tTest, tB, tCB, tCons, tNil, tC, tVar, tOp, tUn, tAndV, tOrV, tNotV, tAnd, tOr, tNot, tIf, tChain, tRet, tRetN, tAsg, gName, tDrop, tNext, tCallS, WE, rI0, rI, rU, L2.start, tYes, gTup, gCons, gNil, tPar, tPar3, tAug, ipI, tWidth, tCall, tMeth, tMake, tFld, tRows, tTable, sFld, rMulT, rSumT, gSub, tBM, rAppend, rSetL, rExtend, rSlL, rSlQ, tCol, Int.toNat_natCast,  tSl, tNoPart, tPart, tTup, tLst, tNever, itu_g, sDPut, tDNewK, tDNewN, tDispN, rSetN, rIxN, rInN, tGetN, rGetN, iKN, iIN, iRg3, iRng3, rGetL, tAugS, tNo, rCopyN, rRep,
  List.map_cons, List.map_nil, List.length_cons, List.length_nil, List.cons_append, List.nil_append, List.replicate, Nat.reduceAdd, Nat.reduceSub, Nat.zero_add, Nat.sub_self,
  List.getElem?_cons_zero, List.getElem?_cons_succ, List.set_cons_zero, List.set_cons_succ, wipe, Option.some.injEq, exists_eq_left', exists_eq_left, V.bl.injEq, V.int.injEq, ref_inj, ty_inj, if_true, if_false, Bool.false_eq_true, Bool.true_eq_false, exists_const, exists_and_left, true_and, and_true, List.cons.injEq,
  isB_int, isB_bool, isB_tuple, isB_list, isT_at, iSq, iRg1, iRg2, iZ2, iZ3, iEn])
local macro_rules | `(tactic| walk_at "st") => `(tactic| ((try dsimp only); rw [tSeq_def]))
local macro_rules | `(tactic| walk_at "lp") => `(tactic| first | rw [tFor_def] | rw [tLc_def] | rw [tWhile_def])
local macro_rules | `(tactic| walk_at "ex") => `(tactic| simp only [List.cons.injEq, and_true, true_and, and_assoc, exists_and_left, exists_eq_left', exists_eq_left, exists_eq_right, exists_const, V.int.injEq, V.bl.injEq, ref_inj, Bool.not_true, Bool.not_false, Bool.false_eq_true, if_true, if_false, Bool.true_eq_false])
section
variable {P : Program} {w : World} {K : PySem.W.Frag} {mg : Str → Option Value} {base : Heap} {a : Ad}
theorem PreP.more {a : Ad} {H : Hp} {E : XK} {v p : V} {ok ok' : Addr → Nat → V → Nat → Nat → Prop} (pt : PreP a H E v p ok) (f : ∀ l k one n w, PcOk a H v p l k one n w → ok l k one n w → ok' l k one n w) : PreP a H E v p ok' := by
  cases pt with
  | no g h q => exact .no g h q
  | len hv hl hn q => exact .len hv hl hn q
  | bad hv hl hn h0 gy hy q => exact .bad hv hl hn h0 gy hy q
  | ok hv hl k1 k6 tb sh gp q1 q2 q3 => exact .ok hv hl k1 k6 tb sh gp q1 q2 fun h1 h2 => f _ _ _ _ _ ⟨hv, hl, k1, k6, tb, sh, h1, h2⟩ (q3 h1 h2)
/-- is_plan(pieces, []) -/
def spIp (P : Program) : Sp := fun vs H Q _ => ∃ (l pl : Addr) (k : Nat) (one : V), vs = [.ref l, .ref pl] ∧ PcAs H l (List.replicate k one) ∧ 1 ≤ k ∧ k ≤ 6 ∧ H pl = some (.lst []) ∧ ∀ H', Same H H' → Q (.bl false) H'
abbrev N_is_plan : List Str := ["pieces", "plan", "index", "is_turned"]
theorem ok_is_plan (D : Def K mg "is_plan" 29) (T : Txt K mg a) (M : TabM P w K mg base a.CT) : CalX P w K mg base 3 "is_plan" (spIp P) := by
  refine calx (N := N_is_plan) (ps := ["pieces", "plan"]) D (by decide +kernel) (fun vs H Q E h => ?_) (fun _ _ _ _ _ _ us hl => match us, hl with | [_, _], _ => rfl) (fun f cdv A outer s H vs Q E hr nd tk pn h => ⟨_, (pss_one (ps_ret (pe_cmpR (op_eqD hr.units) (pe_callB (crK_sorted (K := K) rfl) (by rfl) T.sorted bi_sorted (pa_cons (pe_lc (own := [("index", 2), ("is_turned", 3)]) rfl nd (pi_sq (pv 1)) (blkOk_by (own := [("index", 2), ("is_turned", 3)]) (N := N_is_plan) (sc := defScope (top 29)) (by decide +kernel)) (fun _ _ _ _ _ => (pg_tupK (K := K) (n := 2) rfl rfl (pgs_cons (pg_name (i := 2) nd rfl (Or.inl rfl)) (pgs_cons (pg_name (i := 3) nd rfl (Or.inl rfl)) pgs_nil)))) (fun _ _ _ _ _ => pts_nil) (fun _ _ _ _ _ => (pv 2))) pa_nil)) (pe_listRg rfl (by rfl) T.list (prg_1 (by rfl) T.range (pe_callB (call_lenK (K := K) rfl M hr (by decide)) (by rfl) T.len bi_len (pa_cons (pv 0) pa_nil)))) (nomark _)))), ?_⟩)
  · obtain ⟨_, _, _, _, rfl, _⟩ := h
    rfl
  · obtain ⟨l, pl, k, one, rfl, hl, k1, k6, hp, q⟩ := h
    clear tk pn nd hr
    walk_at "r0"
    walk_at "lp"
    walk_at "r0"
    refine ⟨true, [], sqA_l hp, fun D1 hD1 => ?_⟩
    refine lcA (fun _ => .int 0) hD1 (by simp) (fun H' e => sqA_l (e _ _ hp)) (fun i v H1 H2 acc Nx hi _ _ _ _ => absurd hi (Nat.not_lt_zero _)) (fun H2 e2 h => ?_)
    refine ⟨D1, [], rfl, SqL.of h, by decide, fun ns' p1 hpm _ hp1 => ?_⟩
    obtain rfl : ns' = [] := List.Perm.eq_nil hpm
    have e3 := same_new (o := .lst (([] : List Int).map V.int)) (Same.refl H2) hp1
    have h3 : upd H2 p1 (.lst (([] : List Int).map V.int)) p1 = some (.lst (([] : List Int).map V.int)) := upd_same
    generalize upd H2 p1 _ = H3 at e3 h3 ⊢
    simp only [tLstRg, tRg1]
    walk_at "r0"
    refine len_pc (hl.same (e2.trans e3)) ⟨_, rfl, ?_⟩
    rw [List.length_replicate]
    refine ⟨rgOk_nat k6, fun lr hlr => ?_⟩
    rw [rgV_nat]
    have e4 := same_new (o := .lst ((rgI k).map V.int)) (Same.refl H3) hlr
    refine eq_ints (e4 _ _ h3) upd_same ?_
    have ne : ¬ ([] : List Int) = rgI k := fun z => by
      have := rgI_len k
      rw [← z] at this
      simp at this
      omega
    rw [decide_eq_false ne]
    exact q _ ((e2.trans e3).trans e4)
theorem paired_app {α β : Type} {F : α → β → Prop} : ∀ {l l' : List α} {m m' : List β}, Paired F l m → Paired F l' m' → Paired F (l ++ l') (m ++ m')
  | _, _, _, _, .nil, h => h
  | _, _, _, _, .cons r t, h => .cons r (paired_app t h)
theorem paired_rep {α β : Type} {F : α → β → Prop} {r : β} : ∀ {l : List α} {n : Nat}, Paired F l (List.replicate n r) → ∀ x ∈ l, F x r
  | [], _, _, _, hx => nomatch hx
  | a :: l, n, h, x, hx => by
    cases n with
    | zero => exact nomatch h
    | succ n =>
      rw [List.replicate_succ] at h
      cases h with
      | cons h1 h2 =>
        rcases List.mem_cons.mp hx with rfl | hx
        · exact h1
        · exact paired_rep h2 x hx
theorem paired_mk {α β : Type} {F : α → β → Prop} {r : β} : ∀ {l : List α}, (∀ x ∈ l, F x r) → Paired F l (List.replicate l.length r)
  | [], _ => .nil
  | a :: l, h => .cons (h a (List.mem_cons_self ..)) (paired_mk fun x hx => h x (List.mem_cons_of_mem _ hx))
theorem paired_rev {α β : Type} {F : α → β → Prop} {r : β} {l : List α} {n : Nat} (h : Paired F l (List.replicate n r)) : Paired F l.reverse (List.replicate n r) := by
  have hl := h.length
  rw [List.length_replicate] at hl
  have q := paired_mk (l := l.reverse) (F := F) (r := r) fun x hx => paired_rep h x (List.mem_reverse.mp hx)
  rw [List.length_reverse, hl] at q
  exact q
/-- put_plan(pieces, plan) -/
def spPp (CT : Addr) : Sp := fun vs H Q _ => ∃ (l pl : Addr) (k n w : Nat) (one : V) (ts : List Addr) (pls : List (Int × Bool)), vs = [.ref l, .ref pl] ∧ PcAs H l (List.replicate k one) ∧ 1 ≤ k ∧ k ≤ 6 ∧ Tb CT H one (List.replicate n (List.replicate w 0)) ∧ Shp (List.replicate n (List.replicate w 0)) w ∧ k * n ≤ 10 ∧
  H pl = some (.lst (ts.map V.ref)) ∧ Paired (PlAt H) ts pls ∧ PlanOk k pls ∧ ∀ z H', Same H H' → Q z H'
abbrev N_put_plan : List Str := ["pieces", "plan", "rows", "index", "is_turned"]
theorem ok_put_plan (D : Def K mg "put_plan" 31) (T : Txt K mg a) (M : TabM P w K mg base a.CT) (c_Table : MkX P w K mg base 4 "Table" a.CT (spInit a.CT)) : CalX P w K mg base 6 "put_plan" (spPp a.CT) := by
  refine calx (N := N_put_plan) (ps := ["pieces", "plan"]) D (by decide +kernel) (fun vs H Q E h => ?_) (fun _ _ _ _ _ _ us hl => match us, hl with | [_, _], _ => rfl) (fun f cdv A outer s H vs Q E hr nd tk pn h => ⟨_, (pss_cons (ps_set (i := 2) nd rfl (Or.inl rfl) (pe_lst pa_nil))
      (pss_cons (ps_for pn rfl (pi_sq (pv 1)) (pg_tupK (K := K) (n := 2) rfl rfl (pgs_cons (pg_name (i := 3) nd rfl (Or.inl rfl)) (pgs_cons (pg_name (i := 4) nd rfl (Or.inl rfl)) pgs_nil)))
      (pss_one (ps_expr (pe_bm PySem.F.plainAttrs_list PySem.F.slot_list_extend PySem.F.type_list_extend mt_extT (pv 2) (pa_cons (pe_ifExp (pt_val (pv 4)) (pe_revT (pe_rows T.k.cl T.nR (pe_ix (ixK (K := K) rfl) (pv 0) (pv 3) (fun _ _ => rfl)))) (pe_rows T.k.cl T.nR (pe_ix (ixK (K := K) rfl) (pv 0) (pv 3) (fun _ _ => rfl)))) pa_nil)))))
      (pss_one (ps_ret (pe_mkTable c_Table hr (by decide) (pa_cons (pv 2) pa_nil)))))), ?_⟩)
  · obtain ⟨_, _, _, _, _, _, _, _, rfl, _⟩ := h
    rfl
  · obtain ⟨l, pl, k, n, wd, one, ts, pls, rfl, hl, k1, k6, tb, sh, kn, hp, hpp, ⟨pk, pr⟩, q⟩ := h
    clear tk pn nd hr
    walk_at "st"
    walk_at "r0"
    refine ⟨Nat.zero_le _, fun RL hRL => ?_⟩
    have e1 := same_new (o := .lst []) (Same.refl H) hRL
    have h1 : upd H RL (.lst []) RL = some (.lst (([] : List Addr).map V.ref)) := upd_same
    generalize upd H RL (.lst []) = H1 at e1 h1 ⊢
    walk_at "st"
    walk_at "lp"
    walk_at "r0"
    have hpl := hpp.length
    refine ⟨true, _, sqA_l (e1 _ _ hp), ?_⟩
    refine forB (fun j σ H' => Same H H' ∧ ∃ (rs : List Addr) (v3 v4 : Option V), H' RL = some (.lst (rs.map V.ref)) ∧ Paired (RowAt H') rs (List.replicate (j * n) (List.replicate wd 0)) ∧ σ = [some (.ref l), some (.ref pl), some (.ref RL), v3, v4]) ⟨e1, [], none, none, h1, by rw [Nat.zero_mul]; exact .nil, rfl⟩ (fun j σ H' _ h => sqA_l (h.1 _ _ hp)) ?_ ?_
    · rintro j v σ H2 H3 Nx hj ⟨e2, rs, v3, v4, h2, hrs, rfl⟩ y nx
      simp only [yV] at y
      obtain ⟨rfl, rfl⟩ := y
      rw [List.length_map] at hj
      obtain ⟨⟨i, b⟩, hx, hpa⟩ := paired_get hpp (i := j) (List.getElem?_eq_getElem hj)
      have hg : (ts.map V.ref).getD j .non = .ref ts[j] := by
        rw [List.getD_eq_getElem?_getD, List.getElem?_map, List.getElem?_eq_getElem hj]
        rfl
      rw [hg]
      obtain ⟨z0, z1⟩ := pr _ (List.mem_of_getElem? hx)
      have hpa2 := hpa.k (tupS e2)
      have tb2 := tb.same e2
      have hrl := hrs.length
      rw [List.length_replicate] at hrl
      have hjn : j * n + n ≤ 10 := by
        have : (j + 1) * n ≤ k * n := Nat.mul_le_mul_right _ (by omega)
        rw [Nat.succ_mul] at this
        omega
      have add : ∀ H4 q (us : List Addr), Same H3 H4 → H4 q = some (.tup (us.map V.ref)) → Paired (RowAt H4) us (List.replicate n (List.replicate wd 0)) → ∃ b2 xs zs, q = b2 ∧ H4 RL = some (.lst xs) ∧ H4 b2 = some (.tup zs) ∧ xs.length + zs.length ≤ sizeLine ∧
          Nx [some (.ref l), some (.ref pl), some (.ref RL), some (.int i), some (.bl b)] (upd H4 RL (.lst (xs ++ zs))) := by
        intro H4 q us e4 hq hus
        have hul := hus.length
        rw [List.length_replicate] at hul
        have hRL4 := e4 _ _ h2
        refine ⟨q, _, _, rfl, hRL4, hq, small' (by rw [List.length_map, List.length_map]; omega), nx _ _ ⟨?_, rs ++ us, _, _, ?_, ?_, rfl⟩⟩
        · exact SameX.out (e2.trans e4) (SameX.upd (SameX.refl RL H4)) hRL
        · rw [upd_same, List.map_append]
        · rw [Nat.succ_mul, ← List.replicate_append_replicate]
          exact paired_app (rows_keep (rows_same hrs e4) hRL4) (rows_keep hus hRL4)
      refine un2 hpa2 ?_
      walk_at "r0"
      have one_i : atI (List.replicate k one) i = some one := atI_z z0 (by rw [List.getElem?_replicate, if_pos (by omega)])
      refine ⟨tyL h2, ?_⟩
      cases b with
      | true =>
        rw [if_pos rfl]
        simp only [tRevT]
        walk_at "r0"
        refine ix_pc (hl.same e2) one_i ⟨_, tb2, fun r us hr hus => ⟨_, hr, fun p2 hp2 => ?_⟩⟩
        have e5 := same_new (o := .tup (us.map V.ref).reverse) (Same.refl H3) hp2
        have hus2 : Paired (RowAt (upd H3 p2 (.tup (us.map V.ref).reverse))) us.reverse (List.replicate n (List.replicate wd 0)) := paired_rev (rows_same hus e5)
        obtain ⟨_, xs, zs, rfl, a1, a2, a3, a4⟩ := add _ p2 us.reverse e5 (by rw [upd_same, List.map_reverse]) hus2
        exact ⟨RL, p2, xs, zs, rfl, rfl, a1, a2, a3, a4⟩
      | false =>
        rw [if_neg (by decide)]
        refine ix_pc (hl.same e2) one_i ⟨_, tb2, fun r us hr hus => ?_⟩
        obtain ⟨_, xs, zs, rfl, a1, a2, a3, a4⟩ := add _ r us (Same.refl H3) hr hus
        exact ⟨RL, r, xs, zs, rfl, rfl, a1, a2, a3, a4⟩
    · rintro σ H2 ⟨e2, rs, v3, v4, h2, hrs, rfl⟩
      walk_at "rd"
      rw [List.length_map, hpl, pk] at hrs
      have hn := sh.pos
      rw [List.length_replicate] at hn
      have hkn : 1 ≤ k * n := Nat.mul_pos k1 hn
      refine ⟨rs, h2, _, hrs, wd, ⟨by rw [List.length_replicate]; exact hkn, by rw [List.length_replicate]; exact kn, sh.w1, sh.w4, fun r hr => ?_⟩, fun v H' e _ => q v H' (e2.trans e)⟩
      obtain ⟨_, rfl⟩ := List.mem_replicate.mp hr
      exact sh.row _ (List.mem_replicate.mpr ⟨by omega, rfl⟩)
abbrev N_put_together_best : List Str := ["pieces", "prices"]
theorem ok_put_together_best (D : Def K mg "put_together_best" 38) (T : Txt K mg a) (Ts : TxSe K a.CSe) (c_put_plan : CalX P w K mg base 6 "put_plan" (spPp a.CT)) (c_best_seams : CalX P w K mg base 4 "best_seams" (spBs P w a)) : CalX P w K mg base 7 "put_together_best" (spLs a) := by
  refine calx (N := N_put_together_best) (ps := ["pieces", "prices"]) D (by decide +kernel) (fun vs H Q E h => ?_) (fun _ _ _ _ _ _ us hl => match us, hl with | [_, _], _ => rfl) (fun f cdv A outer s H vs Q E hr nd tk pn h => ⟨_, (pss_one (ps_ret (pe_cx c_put_plan hr (by decide) tk (pa_cons (pv 0) (pa_cons (pe_fld (pe_cx c_best_seams hr (by decide) tk (pa_cons (pv 0) (pa_cons (pv 1) pa_nil))) rfl) pa_nil))))), ?_⟩)
  · obtain ⟨_, _, rfl, _⟩ := h
    rfl
  · obtain ⟨v, p, rfl, pt⟩ := h
    clear tk pn nd hr
    walk_at "rd"
    refine ⟨v, p, rfl, pt.more fun l k one n wd c q z H1 ts pl kvs e1 se pp po => ?_⟩
    obtain ⟨xa, dx, kt, fl, rfl, hx, hk, _⟩ := se
    have c1 := c.same e1
    obtain rfl := c.v
    exact ⟨xa, rfl, a.CSe, dx, _, hx, Ts.cl, Ts.nP, .ref kt, rfl, l, kt, k, n, wd, one, ts, pl, rfl, c1.as, c1.k1, c1.k6, c1.tb, c1.sh, c1.kn, hk, pp, po, fun z2 H2 e2 => q z2 H2 (e1.trans e2)⟩
/-- Seamed([], ..).shows(pieces, prices) -/
def spSs (P : Program) (w : World) (a : Ad) : Sp := fun vs H Q E => ∃ x v p kvs, vs = [x, v, p] ∧ SeAt P w a.CSe H x [] kvs ∧ PreP a H E v p fun _ _ _ _ _ => ∀ H', Same H H' → Q (.bl false) H'
abbrev N_Seamed_shows : List Str := ["self", "pieces", "prices", "begin", "state"]
theorem ok_se_shows (D : DefM K a.CSe "shows" "Seamed.shows" 35 2) (T : Txt K mg a) (M : TabM P w K mg base a.CT) (Ts : TxSe K a.CSe) (c_check_pieces : CalX P w K mg base 3 "check_pieces" (spCk a)) (c_is_plan : CalX P w K mg base 3 "is_plan" (spIp P)) : MetX P w K mg base 4 a.CSe "shows" (spSs P w a) := by
  obtain ⟨f, fd, F, m⟩ := D.ex
  refine ⟨f, fd, ["self", "pieces", "prices"], m, ?_, F.binds fun _ _ _ _ _ _ us hl => match us, hl with | [_, _, _], _ => rfl⟩
  refine fnx (N := N_Seamed_shows) F (by decide +kernel) (fun vs H Q E h => ?_) (fun cdv A outer s H vs Q E hr nd tk pn h => ⟨_, (pss_cons (ps_expr (pe_cx c_check_pieces hr (by decide) tk (pa_cons (pv 1) (pa_cons (pv 2) pa_nil))))
      (pss_cons (ps_set (i := 3) nd rfl (Or.inl rfl) (pe_tup (pa_cons (pe_tupRg rfl (by rfl) T.tuple (prg_1 (by rfl) T.range (pe_callB (call_lenK (K := K) rfl M hr (by decide)) (by rfl) T.len bi_len (pa_cons (pv 1) pa_nil)))) (pa_cons pe_non pa_nil))))
      (pss_cons (ps_if (PW.pt (pw_or (pt_not (pt_val (pe_cx c_is_plan hr (by decide) tk (pa_cons (pv 1) (pa_cons (pe_fld (pv 0) rfl) pa_nil))))) (pw_or1 (pt_cmpR op_ne (pe_getN (P := P) (w := w) rfl rfl hr.units (pe_fld (pv 0) rfl) (pv 3) (pe_un un_neg pe_int) ⟨rfl, rfl, rfl, rfl⟩) pe_no (nomark _)))))
      (pss_one (ps_ret pe_bl))
      pss_nil)
      (pss_one ps_never)))), ?_⟩)
  · obtain ⟨_, _, _, _, rfl, _⟩ := h
    rfl
  · obtain ⟨x, v, p, kvs, rfl, se, pt⟩ := h
    clear tk pn nd hr
    walk_at "st"
    walk_at "r0"
    refine preP_ck pt fun l k one n wd c q H1 e1 => ?_
    obtain rfl := c.v
    walk_at "st"
    walk_at "r0"
    have c1 := c.same e1
    simp only [tTupRg, tRg1]
    walk_at "r0"
    refine len_pc c1.as ⟨_, rfl, ?_⟩
    rw [List.length_replicate]
    refine ⟨rgOk_nat c.k6, fun lt hlt => ?_⟩
    have e4 := same_new (o := .tup (rgV 0 (k : Nat))) (Same.refl H1) hlt
    generalize upd H1 lt _ = H4 at e4 ⊢
    refine ⟨small' (by omega), fun p2 hp2 => ?_⟩
    have e5 := same_new (o := .tup [.ref lt, .non]) (Same.refl H4) hp2
    generalize upd H4 p2 _ = H5 at e5 ⊢
    have e15 := e4.trans e5
    have se5 := se.same (e1.trans e15)
    obtain ⟨xa, dx, kt, fl, rfl, hx, hk, _⟩ := se5
    walk_at "st"
    walk_at "r0"
    simp only [spIp]
    refine ⟨a.CSe, dx, _, hx, Ts.cl, Ts.nP, _, rfl, l, kt, k, one, rfl, (c1.same e15).as, c.k1, c.k6, hk, fun H6 e6 => ?_⟩
    exact ⟨_, rfl, by rw [if_pos (by decide)]; exact q H6 (e1.trans (e15.trans e6))⟩
end
end G


set_option Elab.async false
set_option linter.all false
set_option maxRecDepth 100000
set_option maxHeartbeats 4000000
set_option pp.deepTerms true
set_option pp.maxSteps 100000
set_option format.width 230
namespace G
open PySem PySem.Spec PyProof.Rows L2
local macro_rules | `(tactic| walk_at "rd") => `(tactic| try simp only [cxOf_K, tSeq, tIfS, tTest, tB, tCB, tCons, tNil, tC, tVar, tOp, tUn, tAndV, tOrV, tNotV, tAnd, tOr, tNot, tIf, tChain, tRet, tRetN, tAsg, gName, tDrop, tNext, tCallS, WE, rI0, rI, rU, L2.start, tYes, tLc, tFor, gTup, gCons, gNil, tPar, tPar3, tAug, ipI, tWidth, tCall, tMeth, tMake, tFld, tRows, tTable, sFld, rMulT, rSumT, gSub, tBM, rAppend, rSetL, rExtend, rSlL, rSlQ, tCol, Int.toNat_natCast,  tSl, tNoPart, tPart, tTup, tLst, tNever, itu_g, sDPut, tDNewK, tDNewN, tDispN, rSetN, rIxN, rInN, tGetN, rGetN, iKN, iIN, iRg3, iRng3, rGetL, tAugS, tNo, rCopyN, rRep,
  List.map_cons, List.map_nil, List.length_cons, List.length_nil, List.cons_append, List.nil_append, List.replicate, Nat.reduceAdd, Nat.reduceSub, Nat.zero_add, Nat.sub_self,
  List.getElem?_cons_zero, List.getElem?_cons_succ, List.set_cons_zero, List.set_cons_succ, wipe, Option.some.injEq, exists_eq_left', exists_eq_left, V.bl.injEq, V.int.injEq, ref_inj, ty_inj, if_true, if_false, Bool.false_eq_true, Bool.true_eq_false, exists_const, exists_and_left, true_and, and_true, List.cons.injEq,
  isB_int, isB_bool, isB_tuple, isB_list, isT_at, iSq, iRg1, iRg2, iZ2, iZ3, iEn])
local macro_rules | `(tactic| walk_at "r1") => `(tactic| try simp only [cxOf_K, tSeq, tIfS, tTest, tB, tCB, tCons, tNil, tC, tVar, tOp, tUn, tAndV, tOrV, tNotV, tAnd, tOr, tNot, tIf, tChain, tRet, tRetN, tAsg, gName, tDrop, tNext, tCallS, WE, rI0, rI, rU, L2.start, tYes, gTup, gCons, gNil, tPar, tPar3, tAug, ipI, tWidth, tCall, tMeth, tMake, tFld, tRows, tTable, sFld, rMulT, rSumT, gSub, tBM, rAppend, rSetL, rExtend, rSlL, rSlQ, tCol, Int.toNat_natCast,  tSl, tNoPart, tPart, tTup, tLst, tNever, itu_g, sDPut, tDNewK, tDNewN, tDispN, rSetN, rIxN, rInN, tGetN, rGetN, iKN, iIN, iRg3, iRng3, rGetL, tAugS, tNo, rCopyN, rRep,
  List.map_cons, List.map_nil, List.length_cons, List.length_nil, List.cons_append, List.nil_append, List.replicate, Nat.reduceAdd, Nat.reduceSub, Nat.zero_add, Nat.sub_self,
  List.getElem?_cons_zero, List.getElem?_cons_succ, List.set_cons_zero, List.set_cons_succ, wipe, Option.some.injEq, exists_eq_left', exists_eq_left, V.bl.injEq, V.int.injEq, ref_inj, ty_inj, if_true, if_false, Bool.false_eq_true, Bool.true_eq_false, exists_const, exists_and_left, true_and, and_true, List.cons.injEq,
  isB_int, isB_bool, isB_tuple, isB_list, isT_at, iSq, iRg1, iRg2, iZ2, iZ3, iEn])
local macro_rules | `(tactic| walk_at "r0") => `(tactic| try simp only [cxOf_K, tIfS, tTest, tB, tCB, tCons, tNil, tC, tVar, tOp, tUn, tAndV, tOrV, tNotV, tAnd, tOr, tNot, tIf, tChain, tRet, tRetN, tAsg, gName, tDrop, tNext, tCallS, WE, rI0, rI, rU, L2.start, tYes, gTup, gCons, gNil, tPar, tPar3, tAug, ipI, tWidth, tCall, tMeth, tMake, tFld, tRows, tTable, sFld, rMulT, rSumT, gSub, tBM, rAppend, rSetL, rExtend, rSlL, rSlQ, tCol, Int.toNat_natCast,  tSl, tNoPart, tPart, tTup, tLst, tNever, itu_g, sDPut, tDNewK, tDNewN, tDispN, rSetN, rIxN, rInN, tGetN, rGetN, iKN, iIN, iRg3, iRng3, rGetL, tAugS, tNo, rCopyN, rRep,
  List.map_cons, List.map_nil, List.length_cons, List.length_nil, List.cons_append, List.nil_append, List.replicate, Nat.reduceAdd, Nat.reduceSub, Nat.zero_add, Nat.sub_self,
  List.getElem?_cons_zero, List.getElem?_cons_succ, List.set_cons_zero, List.set_cons_succ, wipe, Option.some.injEq, exists_eq_left', exists_eq_left, V.bl.injEq, V.int.injEq, ref_inj, ty_inj, if_true, if_false, Bool.false_eq_true, Bool.true_eq_false, exists_const, exists_and_left, true_and, and_true, List.cons.injEq,
  isB_int, isB_bool, isB_tuple, isB_list, isT_at, iSq, iRg1, iRg2, iZ2, iZ3, iEn])
local macro_rules | `(tactic| walk_at "st") => `(tactic| ((try dsimp only); rw [tSeq_def]))
local macro_rules | `(tactic| walk_at "lp") => `(tactic| first | rw [tFor_def] | rw [tLc_def] | rw [tWhile_def])
local macro_rules | `(tactic| walk_at "ex") => `(tactic| simp only [List.cons.injEq, and_true, true_and, and_assoc, exists_and_left, exists_eq_left', exists_eq_left, exists_eq_right, exists_const, V.int.injEq, V.bl.injEq, ref_inj, Bool.not_true, Bool.not_false, Bool.false_eq_true, if_true, if_false, Bool.true_eq_false])
section
variable {P : Program} {w : World} {K : PySem.W.Frag} {mg : Str → Option Value} {base : Heap} {a : Ad}
/-! ### the law's own defs: numbers out of the script -/
def Script (K : PySem.W.Frag) (H : Hp) (s : Addr) : Prop := ∃ ns : List Int, SqL K H s (ns.map V.int) ∧ ns.length ≤ 63
theorem sqL_same {K : PySem.W.Frag} {H H' : Hp} {a : Addr} {xs : List V} (h : SqL K H a xs) (e : Same H H') : SqL K H' a xs := by
  rcases h with (h | ⟨o, h⟩) | h
  · exact .inl (.inl (e _ _ h))
  · exact .inl (.inr ⟨o, e _ _ h⟩)
  · exact .inr h
theorem Script.same {K : PySem.W.Frag} {H H' : Hp} {s : Addr} (h : Script K H s) (e : Same H H') : Script K H' s := let ⟨ns, h1, h2⟩ := h; ⟨ns, sqL_same h1 e, h2⟩
/-- _law_number(script, index): some number -/
def spLn (K : PySem.W.Frag) : Sp := fun vs H Q _ => ∃ (s : Addr) (i : Int), vs = [.ref s, .int i] ∧ Script K H s ∧ ∀ z H', Same H H' → Q (.int z) H'
abbrev N__law_number : List Str := ["_law_script", "_law_index", "_law_cells", "_law_cell", "_law_low", "_law_high", "_law_total", "_law_blend"]
theorem ok_law_number (D : Def K mg "_law_number" 71) (T : Txt K mg a) (M : TabM P w K mg base a.CT) : CalX P w K mg base 3 "_law_number" (spLn K) := by
  refine calx (N := N__law_number) (ps := ["_law_script", "_law_index"]) D (by decide +kernel) (fun vs H Q E h => ?_) (fun _ _ _ _ _ _ us hl => match us, hl with | [_, _], _ => rfl) (fun f cdv A outer s H vs Q E hr nd tk pn h => ⟨_, (pss_cons (ps_set (i := 2) nd rfl (Or.inl rfl) (pe_ifExp (pt_cmpR (opK_neD (K := K) rfl hr.units) (pv 0) (pe_lst pa_nil) (nomark _)) (pe_slice (sl_listK (K := K) rfl) (pv 0) po_none (po_some pe_int)) (pe_lst (pa_cons pe_int pa_nil))))
      (pss_cons (ps_set (i := 3) nd rfl (Or.inl rfl) (pe_op op_add (pe_ix (ixK (K := K) rfl) (pv 2) (pe_op op_mod (pe_callTy crI_int (by rfl) T.int bi_int (pa_cons (pv 1) pa_nil)) (pe_callB (call_lenK (K := K) rfl M hr (by decide)) (by rfl) T.len bi_len (pa_cons (pv 2) pa_nil))) (fun _ _ => rfl)) (pe_op op_mul pe_int (pe_op op_fdiv (pv 1) (pe_callB (call_lenK (K := K) rfl M hr (by decide)) (by rfl) T.len bi_len (pa_cons (pv 2) pa_nil))))))
      (pss_cons (ps_par (i := 4) (j := 5) rfl nd rfl rfl (by decide) rfl rfl (pa_cons (pe_op op_mod (pe_callTy crI_int (by rfl) T.int bi_int (pa_cons (pv 3) pa_nil)) pe_int) (pa_cons (pe_op op_mod (pe_callTy crI_int (by rfl) T.int bi_int (pa_cons (pe_op op_fdiv (pv 3) pe_int) pa_nil)) pe_int) pa_nil)) (by rfl))
      (pss_cons (ps_set (i := 6) nd rfl (Or.inl rfl) (pe_op op_mod (pe_callTy crI_int (by rfl) T.int bi_int (pa_cons (pe_callB (crK_sum (K := K) rfl rfl) (by rfl) T.sum bi_sum (pa_cons (pv 2) pa_nil)) pa_nil)) pe_int))
      (pss_cons (ps_set (i := 7) nd rfl (Or.inl rfl) (pe_op op_mod (pe_callTy crI_int (by rfl) T.int bi_int (pa_cons (pe_op op_add (pe_op op_add (pe_op op_mul (pe_op op_add (pv 4) (pe_op op_mul pe_int (pv 1))) pe_int) (pe_op op_mul pe_int (pv 5))) (pv 6)) pa_nil)) pe_int))
      (pss_one (ps_ret (pe_op op_add (pe_op op_mul (pe_op op_mod (pe_callTy crI_int (by rfl) T.int bi_int (pa_cons (pe_op op_mul (pv 7) (pe_op op_add (pe_op op_add (pv 7) (pe_op op_mul pe_int (pv 1))) pe_int)) pa_nil)) pe_int) pe_int) (pv 5))))))))), ?_⟩)
  · obtain ⟨_, _, rfl, _⟩ := h
    rfl
  · obtain ⟨sc, i, rfl, ⟨ns, hs, h63⟩, q⟩ := h
    clear tk pn nd hr
    walk_at "st"
    walk_at "r0"
    refine ⟨Nat.zero_le _, fun p hp => ?_⟩
    have e1 := same_new (o := .lst []) (Same.refl H) hp
    have h1 : upd H p (.lst []) p = some (.lst ([] : List V)) := upd_same
    generalize upd H p (.lst []) = H1 at e1 h1 ⊢
    generalize hB : tSeq (tAsg (tOp (rI0 fun i j => V.int (i + j)) (tOp (rIx K) (tVar 2) _) _) (gName 3)) _ = B
    have rest : ∀ (H2 : Hp) (cl : Addr) (ms : List Int), Same H H2 → H2 cl = some (.lst (ms.map V.int)) → 0 < ms.length → ms.length ≤ 63 → B { nx := fun x H' => Q V.non H', rt := Q } [some (.ref sc), some (.int i), some (.ref cl), none, none, none, none, none] H2 := by
      intro H2 cl ms e2 hcl m0 m63
      subst hB
      walk_at "rd"
      have lz : (0 : Int) < ((ms.map V.int).length : Nat) := by rw [List.length_map]; omega
      have z1 := Int.emod_nonneg i (show (((ms.map V.int).length : Nat) : Int) ≠ 0 by omega)
      have z2 := Int.emod_lt_of_pos i lz
      have hat : ∃ m, atI (ms.map V.int) (i % ((ms.map V.int).length : Nat)) = some (.int m) := by
        have hlt : (i % ((ms.map V.int).length : Nat)).toNat < ms.length := by
          rw [List.length_map] at z2 z1 ⊢
          omega
        exact ⟨ms[(i % ((ms.map V.int).length : Nat)).toNat], atI_z z1 (by rw [List.getElem?_map, List.getElem?_eq_getElem hlt]; rfl)⟩
      obtain ⟨m, hm⟩ := hat
      have z3 := Int.emod_nonneg
      refine len_l hcl ⟨_, rfl, lz, ix_l hcl hm (len_l hcl ⟨_, rfl, ⟨lz, by rw [List.length_map]; omega⟩, .inl ⟨by decide, by decide⟩, m, rfl, by decide, ⟨by decide, by decide⟩, by decide, _, _, ⟨rfl, rfl⟩, ?_⟩)⟩
      refine sum_l hcl ⟨_, rfl, by decide, .inl ⟨by decide, by decide⟩, _, rfl, .inr ⟨by decide, by decide⟩, _, rfl, .inl ⟨by decide, by decide⟩, by decide, .inl ⟨by decide, by decide⟩, .inl ?_, by decide, .inr ⟨by decide, by decide⟩, _, rfl, q _ _ e2⟩
      have b1 := Int.emod_nonneg (((m + 13 * (i / ((ms.map V.int).length : Nat))) % 1000003 + 977 * i) * 48271 + 31 * ((m + 13 * (i / ((ms.map V.int).length : Nat))) / 1000003 % 999983) + ms.sum % 65521) (show (2147483647 : Int) ≠ 0 by decide)
      have b2 := Int.emod_lt_of_pos (((m + 13 * (i / ((ms.map V.int).length : Nat))) % 1000003 + 977 * i) * 48271 + 31 * ((m + 13 * (i / ((ms.map V.int).length : Nat))) / 1000003 % 999983) + ms.sum % 65521) (show (0 : Int) < 2147483647 by decide)
      constructor <;> omega
    clear hB
    have hne : ∀ q : VK, q (.bl (!(ns.map V.int).isEmpty)) H1 → rNeD K (.ref sc) (.ref p) H1 q := fun q hq => by
      have hs1 : SqL K H1 sc (ns.map V.int) := sqL_same hs e1
      exact ⟨.list (ns.map PyData.int), .list [], .lst hs1 (dp_ints _), .lst (SqL.of h1) .nil, sh_intL _, by decide +kernel, by rw [eqv_nilL, ← emp_len (dp_len (dp_ints (K := K) (H := H1) ns))]; exact hq⟩
    refine hne _ ⟨_, rfl, ?_⟩
    cases hemp : (ns.map V.int).isEmpty with
    | true =>
      rw [if_neg (by decide)]
      refine ⟨by decide, fun cl hcl => ?_⟩
      exact rest _ cl [5] (e1.trans (same_new (Same.refl H1) hcl)) upd_same (by decide) (by decide)
    | false =>
      rw [if_pos (by decide)]
      refine ⟨_, sqL_same hs e1, fun cl hcl => ?_⟩
      have hw : cutV (ns.map V.int) none (some 63) = ns.map V.int := cutV_whole ⟨rfl, by rw [show (63 : Int) = ((63 : Nat) : Int) from rfl, HT.sIx_nat, List.length_map]; omega⟩
      have m0 : 0 < ns.length := by
        cases hz : ns with
        | nil => rw [hz] at hemp; exact nomatch hemp
        | cons a l => simp
      exact rest _ cl ns (e1.trans (same_new (Same.refl H1) hcl)) (by rw [upd_same, hw]) m0 h63
end
end G


set_option Elab.async false
set_option linter.all false
set_option maxRecDepth 100000
set_option maxHeartbeats 4000000
set_option pp.deepTerms true
set_option pp.maxSteps 100000
set_option format.width 230
namespace G
open PySem PySem.Spec PyProof.Rows L2
local macro_rules | `(tactic| walk_at "rd") => `(tactic| try simp only [cxOf_K, tSeq, tIfS, tTest, tB, tCB, tCons, tNil, tC, tVar, tOp, tUn, tAndV, tOrV, tNotV, tAnd, tOr, tNot, tIf, tChain, tRet, tRetN, tAsg, gName, tDrop, tNext, tCallS, WE, rI0, rI, rU, L2.start, tYes, tLc, tFor, gTup, gCons, gNil, tPar, tPar3, tAug, ipI, tWidth, tCall, tMeth, tMake, tFld, tRows, tTable, sFld, rMulT, rSumT, gSub, tBM, rAppend, rSetL, rExtend, rSlL, rSlQ, tCol, Int.toNat_natCast,  tSl, tNoPart, tPart, tTup, tLst, tNever, itu_g, sDPut, tDNewK, tDNewN, tDispN, rSetN, rIxN, rInN, tGetN, rGetN, iKN, iIN, iRg3, iRng3, rGetL, tAugS, tNo, rCopyN, rRep,
  List.map_cons, List.map_nil, List.length_cons, List.length_nil, List.cons_append, List.nil_append, List.replicate, Nat.reduceAdd, Nat.reduceSub, Nat.zero_add, Nat.sub_self,
  List.getElem?_cons_zero, List.getElem?_cons_succ, List.set_cons_zero, List.set_cons_succ, wipe, Option.some.injEq, exists_eq_left', exists_eq_left, V.bl.injEq, V.int.injEq, ref_inj, ty_inj, if_true, if_false, Bool.false_eq_true, Bool.true_eq_false, exists_const, exists_and_left, true_and, and_true, List.cons.injEq,
  isB_int, isB_bool, isB_tuple, isB_list, isT_at, iSq, iRg1, iRg2, iZ2, iZ3, iEn])
local macro_rules | `(tactic| walk_at "r1") => `(tactic| try simp only [cxOf_K, tSeq, tIfS, tTest, tB, tCB, tCons, tNil, tC, tVar, tOp, tUn, tAndV, tOrV, tNotV, tAnd, tOr, tNot, tIf, tChain, tRet, tRetN, tAsg, gName, tDrop, tNext, tCallS, WE, rI0, rI, rU, L2.start, tYes, gTup, gCons, gNil, tPar, tPar3, tAug, ipI, tWidth, tCall, tMeth, tMake, tFld, tRows, tTable, sFld, rMulT, rSumT, gSub, tBM, rAppend, rSetL, rExtend, rSlL, rSlQ, tCol, Int.toNat_natCast,  tSl, tNoPart, tPart, tTup, tLst, tNever, itu_g, sDPut, tDNewK, tDNewN, tDispN, rSetN, rIxN, rInN, tGetN, rGetN, iKN, iIN, iRg3, iRng3, rGetL, tAugS, tNo, rCopyN, rRep,
  List.map_cons, List.map_nil, List.length_cons, List.length_nil, List.cons_append, List.nil_append, List.replicate, Nat.reduceAdd, Nat.reduceSub, Nat.zero_add, Nat.sub_self,
  List.getElem?_cons_zero, List.getElem?_cons_succ, List.set_cons_zero, List.set_cons_succ, wipe, Option.some.injEq, exists_eq_left', exists_eq_left, V.bl.injEq, V.int.injEq, ref_inj, ty_inj, if_true, if_false, Bool.false_eq_true, Bool.true_eq_false, exists_const, exists_and_left, true_and, and_true, List.cons.injEq,
  isB_int, isB_bool, isB_tuple, isB_list, isT_at, iSq, iRg1, iRg2, iZ2, iZ3, iEn])
local macro_rules | `(tactic| walk_at "r0") => `(tactic| try simp only [cxOf_K, tIfS, tTest, tB, tCB, tCons, tNil, tC, tVar, tOp, tUn, tAndV, tOrV, tNotV, tAnd, tOr, tNot, tIf, tChain, tRet, tRetN, tAsg, gName, tDrop, tNext, tCallS, WE, rI0, rI, rU, L2.start, tYes, gTup, gCons, gNil, tPar, tPar3, tAug, ipI, tWidth, tCall, tMeth, tMake, tFld, tRows, tTable, sFld, rMulT, rSumT, gSub, tBM, rAppend, rSetL, rExtend, rSlL, rSlQ, tCol, Int.toNat_natCast,  tSl, tNoPart, tPart, tTup, tLst, tNever, itu_g, sDPut, tDNewK, tDNewN, tDispN, rSetN, rIxN, rInN, tGetN, rGetN, iKN, iIN, iRg3, iRng3, rGetL, tAugS, tNo, rCopyN, rRep,
  List.map_cons, List.map_nil, List.length_cons, List.length_nil, List.cons_append, List.nil_append, List.replicate, Nat.reduceAdd, Nat.reduceSub, Nat.zero_add, Nat.sub_self,
  List.getElem?_cons_zero, List.getElem?_cons_succ, List.set_cons_zero, List.set_cons_succ, wipe, Option.some.injEq, exists_eq_left', exists_eq_left, V.bl.injEq, V.int.injEq, ref_inj, ty_inj, if_true, if_false, Bool.false_eq_true, Bool.true_eq_false, exists_const, exists_and_left, true_and, and_true, List.cons.injEq,
  isB_int, isB_bool, isB_tuple, isB_list, isT_at, iSq, iRg1, iRg2, iZ2, iZ3, iEn])
local macro_rules | `(tactic| walk_at "st") => `(tactic| ((try dsimp only); rw [tSeq_def]))
local macro_rules | `(tactic| walk_at "lp") => `(tactic| first | rw [tFor_def] | rw [tLc_def] | rw [tWhile_def])
local macro_rules | `(tactic| walk_at "ex") => `(tactic| simp only [List.cons.injEq, and_true, true_and, and_assoc, exists_and_left, exists_eq_left', exists_eq_left, exists_eq_right, exists_const, V.int.injEq, V.bl.injEq, ref_inj, Bool.not_true, Bool.not_false, Bool.false_eq_true, if_true, if_false, Bool.true_eq_false])
section
variable {P : Program} {w : World} {K : PySem.W.Frag} {mg : Str → Option Value} {base : Heap} {a : Ad}
/-! ### draws -/
/-- [script, counter] -/
def DrawAt (K : PySem.W.Frag) (sc : Addr) (H : Hp) (d : Addr) : Prop := ∃ i, H d = some (.lst [.ref sc, .int i]) ∧ Script K H sc
theorem script_x {K : PySem.W.Frag} {H H' : Hp} {d sc : Addr} {vs : List V} {b : Addr} (hd : H d = some (.lst (.ref b :: vs))) (h : Script K H sc) (e : SameX d H H') : Script K H' sc := by
  obtain ⟨ns, h1, h2⟩ := h
  refine ⟨ns, ?_, h2⟩
  rcases h1 with (h | ⟨o, h⟩) | h
  · refine .inl (.inl (e _ _ h fun z => ?_))
    rw [z, hd] at h
    cases ns with
    | nil => exact nomatch h
    | cons n ns => exact nomatch h
  · refine .inl (.inr ⟨o, e _ _ h fun z => ?_⟩)
    rw [z, hd] at h
    exact nomatch h
  · exact .inr h
theorem DrawAt.same {K : PySem.W.Frag} {H H' : Hp} {d sc0 : Addr} (h : DrawAt K sc0 H d) (e : Same H H') : DrawAt K sc0 H' d := let ⟨i, h1, h2⟩ := h; ⟨i, e _ _ h1, h2.same e⟩
/-- _law_take(draw, many) -/
def spLt (K : PySem.W.Frag) : Sp := fun vs H Q _ => ∃ (d sc0 : Addr) (many : Int), vs = [.ref d, .int many] ∧ DrawAt K sc0 H d ∧ 0 < many ∧ ∀ r H', SameX d H H' → DrawAt K sc0 H' d → 0 ≤ r → r < many → Q (.int r) H'
abbrev N__law_take : List Str := ["_law_draw", "_law_many"]
theorem ok_law_take (D : Def K mg "_law_take" 72) (T : Txt K mg a) (M : TabM P w K mg base a.CT) (c__law_number : CalX P w K mg base 3 "_law_number" (spLn K)) : CalX P w K mg base 4 "_law_take" (spLt K) := by
  refine calx (N := N__law_take) (ps := ["_law_draw", "_law_many"]) D (by decide +kernel) (fun vs H Q E h => ?_) (fun _ _ _ _ _ _ us hl => match us, hl with | [_, _], _ => rfl) (fun f cdv A outer s H vs Q E hr nd tk pn h => ⟨_, (pss_cons (ps_asg (pe_op op_add (pe_ix (ixK (K := K) rfl) (pv 0) pe_int (fun _ _ => rfl)) pe_int) (pg_sub (pv 0) pe_int set_list))
      (pss_one (ps_ret (pe_op op_mod (pe_callTy crI_int (by rfl) T.int bi_int (pa_cons (pe_cx c__law_number hr (by decide) tk (pa_cons (pe_ix (ixK (K := K) rfl) (pv 0) pe_int (fun _ _ => rfl)) (pa_cons (pe_callTy crI_int (by rfl) T.int bi_int (pa_cons (pe_ix (ixK (K := K) rfl) (pv 0) pe_int (fun _ _ => rfl)) pa_nil)) pa_nil))) pa_nil)) (pv 1))))), ?_⟩)
  · obtain ⟨_, _, _, rfl, _⟩ := h
    rfl
  · obtain ⟨d, sc, many, rfl, ⟨i, hd, hs⟩, hm, q⟩ := h
    clear tk pn nd hr
    walk_at "st"
    walk_at "r0"
    refine ix_l hd (atI_nat (k := 1) rfl) ⟨_, rfl, ?_⟩
    refine ⟨_, hd, 1, show ixN 2 1 = some 1 by decide +kernel, ?_⟩
    have x1 : SameX d H (upd H d (.lst [.ref sc, .int (i + 1)])) := (SameX.refl d H).upd
    have h1 : upd H d (.lst [.ref sc, .int (i + 1)]) d = some (.lst [.ref sc, .int (i + 1)]) := upd_same
    have s1 := script_x hd hs x1
    show rIx K (.ref d) (.int 0) (upd H d (.lst [.ref sc, .int (i + 1)])) _
    generalize upd H d (.lst [.ref sc, .int (i + 1)]) = H1 at x1 h1 s1 ⊢
    refine ix_l h1 (atI_nat (k := 0) rfl) (ix_l h1 (atI_nat (k := 1) rfl) ⟨_, rfl, sc, _, rfl, s1, fun z H2 e2 => ⟨z, rfl, hm, ?_⟩⟩)
    exact q _ H2 (x1.same e2) ⟨_, e2 _ _ h1, s1.same e2⟩ (Int.emod_nonneg _ (by omega)) (Int.emod_lt_of_pos _ hm)
/-- _law_pick(draw, things): one of them -/
def spLp (K : PySem.W.Frag) : Sp := fun vs H Q _ => ∃ (d l sc0 : Addr) (xs : List V), vs = [.ref d, .ref l] ∧ DrawAt K sc0 H d ∧ H l = some (.lst xs) ∧ 0 < xs.length ∧ l ≠ d ∧ ∀ i H', i < xs.length → SameX d H H' → DrawAt K sc0 H' d → Q (xs.getD i .non) H'
abbrev N__law_pick : List Str := ["_law_draw", "_law_things"]
theorem ok_law_pick (D : Def K mg "_law_pick" 73) (T : Txt K mg a) (M : TabM P w K mg base a.CT) (c__law_take : CalX P w K mg base 4 "_law_take" (spLt K)) : CalX P w K mg base 5 "_law_pick" (spLp K) := by
  refine calx (N := N__law_pick) (ps := ["_law_draw", "_law_things"]) D (by decide +kernel) (fun vs H Q E h => ?_) (fun _ _ _ _ _ _ us hl => match us, hl with | [_, _], _ => rfl) (fun f cdv A outer s H vs Q E hr nd tk pn h => ⟨_, (pss_one (ps_ret (pe_ix (ixK (K := K) rfl) (pv 1) (pe_cx c__law_take hr (by decide) tk (pa_cons (pv 0) (pa_cons (pe_callB (call_lenK (K := K) rfl M hr (by decide)) (by rfl) T.len bi_len (pa_cons (pv 1) pa_nil)) pa_nil))) (fun _ _ => rfl)))), ?_⟩)
  · obtain ⟨_, _, _, _, rfl, _⟩ := h
    rfl
  · obtain ⟨d, l, sc0, xs, rfl, hd, hl, h0, hne, q⟩ := h
    clear tk pn nd hr
    walk_at "rd"
    refine len_l hl ?_
    simp only [spLt]
    refine ⟨d, sc0, _, rfl, hd, by omega, fun r H1 x1 d1 r0 r1 => ?_⟩
    have hr : r.toNat < xs.length := by omega
    refine ix_l (x1 _ _ hl hne) (atI_z r0 (v := xs.getD r.toNat .non) ?_) (q r.toNat H1 hr x1 d1)
    rw [List.getElem?_eq_getElem hr, List.getD_eq_getElem?_getD, List.getElem?_eq_getElem hr]
    rfl
/-- _law_is_number(v, lo, hi) -/
abbrev N__law_is_number : List Str := ["_law_thing", "_law_low", "_law_high"]
theorem ok_law_is_number (D : Def K mg "_law_is_number" 74) (T : Txt K mg a) : CalX P w K mg base 1 "_law_is_number" (spNum a.CT) := by
  refine calx (N := N__law_is_number) (ps := ["_law_thing", "_law_low", "_law_high"]) D (by decide +kernel) (fun vs H Q E h => ?_) (fun _ _ _ _ _ _ us hl => match us, hl with | [_, _, _], _ => rfl) (fun f cdv A outer s H vs Q E hr nd tk pn h => ⟨_, (pss_one (ps_ret (pe_and (pe_callB (call_isB T.k) (by rfl) T.isinstance bi_isinstance (pa_cons (pv 0) (pa_cons (pe_bltn (v := .ty "int") (by rfl) T.int bi_int rfl) pa_nil))) (pe_and (pe_not (pe_callB (call_isB T.k) (by rfl) T.isinstance bi_isinstance (pa_cons (pv 0) (pa_cons (pe_bltn (v := .ty "bool") (by rfl) T.bool bi_bool rfl) pa_nil)))) (pe_one (pe_chain op_le op_le (pv 1) (pv 0) (pv 2))))))), ?_⟩)
  · obtain ⟨v, lo, hi, rfl, _⟩ := h
    rfl
  · obtain ⟨v, lo, hi, rfl, g, q⟩ := h
    clear tk pn nd hr
    walk_at "rd"
    refine ⟨g, ?_⟩
    cases g with
    | int i =>
      simp only [isB, isNum_int] at q ⊢
      refine ⟨.int i, i, rfl, ?_⟩
      by_cases h1 : lo ≤ i
      · simp only [decide_eq_true h1, Bool.true_and, if_true] at q ⊢
        exact ⟨i, rfl, q⟩
      · simp only [decide_eq_false h1, Bool.false_and, Bool.false_eq_true, if_false] at q ⊢
        exact q
    | bl b => simp only [isB]; exact ⟨.bl b, q⟩
    | non => exact q
    | str s => exact q
    | lst h => simp only [isB, h]; exact q
    | tup h => simp only [isB, h]; exact q
    | dK h => simp only [isB, h]; exact q
    | tab h => simp only [isB, h]; exact q
end
end G


set_option Elab.async false
set_option linter.all false
set_option maxRecDepth 100000
set_option maxHeartbeats 4000000
set_option pp.deepTerms true
set_option pp.maxSteps 100000
set_option format.width 230
namespace G
open PySem PySem.Spec PyProof.Rows L2
local macro_rules | `(tactic| walk_at "rd") => `(tactic| try simp only [cxOf_K, tSeq, tIfS, tTest, tB, tCB, tCons, tNil, tC, tVar, tOp, tUn, tAndV, tOrV, tNotV, tAnd, tOr, tNot, tIf, tChain, tRet, tRetN, tAsg, gName, tDrop, tNext, tCallS, WE, rI0, rI, rU, L2.start, tYes, tLc, tFor, gTup, gCons, gNil, tPar, tPar3, tAug, ipI, tWidth, tCall, tMeth, tMake, tFld, tRows, tTable, sFld, rMulT, rSumT, gSub, tBM, rAppend, rSetL, rExtend, rSlL, rSlQ, tCol, Int.toNat_natCast,  tSl, tNoPart, tPart, tTup, tLst, tNever, itu_g, sDPut, tDNewK, tDNewN, tDispN, rSetN, rIxN, rInN, tGetN, rGetN, iKN, iIN, iRg3, iRng3, rGetL, tAugS, tNo, rCopyN, rRep,
  List.map_cons, List.map_nil, List.length_cons, List.length_nil, List.cons_append, List.nil_append, List.replicate, Nat.reduceAdd, Nat.reduceSub, Nat.zero_add, Nat.sub_self,
  List.getElem?_cons_zero, List.getElem?_cons_succ, List.set_cons_zero, List.set_cons_succ, wipe, Option.some.injEq, exists_eq_left', exists_eq_left, V.bl.injEq, V.int.injEq, ref_inj, ty_inj, if_true, if_false, Bool.false_eq_true, Bool.true_eq_false, exists_const, exists_and_left, true_and, and_true, List.cons.injEq,
  isB_int, isB_bool, isB_tuple, isB_list, isT_at, iSq, iRg1, iRg2, iZ2, iZ3, iEn])
local macro_rules | `(tactic| walk_at "r1") => `(tactic| try simp only [cxOf_K, tSeq, tIfS, tTest, tB, tCB, tCons, tNil, tC, tVar, tOp, tUn, tAndV, tOrV, tNotV, tAnd, tOr, tNot, tIf, tChain, tRet, tRetN, tAsg, gName, tDrop, tNext, tCallS, WE, rI0, rI, rU, L2.start, tYes, gTup, gCons, gNil, tPar, tPar3, tAug, ipI, tWidth, tCall, tMeth, tMake, tFld, tRows, tTable, sFld, rMulT, rSumT, gSub, tBM, rAppend, rSetL, rExtend, rSlL, rSlQ, tCol, Int.toNat_natCast,  tSl, tNoPart, tPart, tTup, tLst, tNever, itu_g, sDPut, tDNewK, tDNewN, tDispN, rSetN, rIxN, rInN, tGetN, rGetN, iKN, iIN, iRg3, iRng3, rGetL, tAugS, tNo, rCopyN, rRep,
  List.map_cons, List.map_nil, List.length_cons, List.length_nil, List.cons_append, List.nil_append, List.replicate, Nat.reduceAdd, Nat.reduceSub, Nat.zero_add, Nat.sub_self,
  List.getElem?_cons_zero, List.getElem?_cons_succ, List.set_cons_zero, List.set_cons_succ, wipe, Option.some.injEq, exists_eq_left', exists_eq_left, V.bl.injEq, V.int.injEq, ref_inj, ty_inj, if_true, if_false, Bool.false_eq_true, Bool.true_eq_false, exists_const, exists_and_left, true_and, and_true, List.cons.injEq,
  isB_int, isB_bool, isB_tuple, isB_list, isT_at, iSq, iRg1, iRg2, iZ2, iZ3, iEn])
local macro_rules | `(tactic| walk_at "r0") => `(tactic| try simp only [cxOf_K, tIfS, tTest, tB, tCB, tCons, tNil, tC, tVar, tOp, tUn, tAndV, tOrV, tNotV, tAnd, tOr, tNot, tIf, tChain, tRet, tRetN, tAsg, gName, tDrop, tNext, tCallS, WE, rI0, rI, rU, L2.start, tYes, gTup, gCons, gNil, tPar, tPar3, tAug, ipI, tWidth, tCall, tMeth, tMake, tFld, tRows, tTable, sFld, rMulT, rSumT, gSub, tBM, rAppend, rSetL, rExtend, rSlL, rSlQ, tCol, Int.toNat_natCast,  tSl, tNoPart, tPart, tTup, tLst, tNever, itu_g, sDPut, tDNewK, tDNewN, tDispN, rSetN, rIxN, rInN, tGetN, rGetN, iKN, iIN, iRg3, iRng3, rGetL, tAugS, tNo, rCopyN, rRep,
  List.map_cons, List.map_nil, List.length_cons, List.length_nil, List.cons_append, List.nil_append, List.replicate, Nat.reduceAdd, Nat.reduceSub, Nat.zero_add, Nat.sub_self,
  List.getElem?_cons_zero, List.getElem?_cons_succ, List.set_cons_zero, List.set_cons_succ, wipe, Option.some.injEq, exists_eq_left', exists_eq_left, V.bl.injEq, V.int.injEq, ref_inj, ty_inj, if_true, if_false, Bool.false_eq_true, Bool.true_eq_false, exists_const, exists_and_left, true_and, and_true, List.cons.injEq,
  isB_int, isB_bool, isB_tuple, isB_list, isT_at, iSq, iRg1, iRg2, iZ2, iZ3, iEn])
local macro_rules | `(tactic| walk_at "st") => `(tactic| ((try dsimp only); rw [tSeq_def]))
local macro_rules | `(tactic| walk_at "lp") => `(tactic| first | rw [tFor_def] | rw [tLc_def] | rw [tWhile_def])
local macro_rules | `(tactic| walk_at "ex") => `(tactic| simp only [List.cons.injEq, and_true, true_and, and_assoc, exists_and_left, exists_eq_left', exists_eq_left, exists_eq_right, exists_const, V.int.injEq, V.bl.injEq, ref_inj, Bool.not_true, Bool.not_false, Bool.false_eq_true, if_true, if_false, Bool.true_eq_false])
section
variable {P : Program} {w : World} {K : PySem.W.Frag} {mg : Str → Option Value} {base : Heap} {a : Ad}
/-! ### words -/
/-- the first word that is not none -/
def firstW (ws : List Str) : Str := ((ws.filter fun x => !decide (x = ("none" : Str))).head?).getD "none"
theorem kept_filterS {α : Type} {xs : List Str} {d : Str} {p : Str → Bool} {f : Str → α} : (kept (fun i => p (xs.getD i d)) xs.length).map (fun i => f (xs.getD i d)) = (xs.filter p).map f := by
  have key : ∀ n, n ≤ xs.length → (kept (fun i => p (xs.getD i d)) n).map (fun i => f (xs.getD i d)) = ((xs.take n).filter p).map f := by
    intro n
    induction n with
    | zero => intro _; rfl
    | succ n ih =>
      intro h
      rw [kept_succ, List.map_append, ih (by omega), List.take_add_one, List.filter_append, List.map_append, List.getElem?_eq_getElem (by omega)]
      congr 1
      have e : xs.getD n d = xs[n] := by rw [List.getD_eq_getElem?_getD, List.getElem?_eq_getElem (by omega)]; rfl
      simp only [e, Option.toList_some]
      by_cases hp : p xs[n] = true
      · rw [if_pos hp, List.filter_cons, if_pos hp]
        simp only [List.map_cons, List.map_nil, List.filter_nil, e]
      · rw [if_neg hp, List.filter_cons, if_neg hp]
        rfl
  have h := key xs.length (Nat.le_refl _)
  rw [List.take_length] at h
  exact h
theorem sh_strs : ∀ ns : List Str, (∀ x ∈ ns, PyData.canLay0 (.str x) = true) → PyData.canLayAll0 (ns.map PyData.str) = true ∧ PyData.depthAll (ns.map PyData.str) = 0
  | [], _ => ⟨rfl, rfl⟩
  | n :: ns, h => by
    obtain ⟨h1, h2⟩ := sh_strs ns fun x hx => h x (List.mem_cons_of_mem _ hx)
    exact ⟨by show (PyData.canLay0 (.str n) && PyData.canLayAll0 (ns.map PyData.str)) = true; rw [h1, h n (List.mem_cons_self ..)]; rfl, by show max (PyData.depth (.str n)) (PyData.depthAll (ns.map PyData.str)) = 0; rw [h2]; rfl⟩
theorem sh_strL (ns : List Str) (h : ∀ x ∈ ns, PyData.canLay0 (.str x) = true) : SeqAt.shaped (.list (ns.map PyData.str)) = true := by
  obtain ⟨h1, h2⟩ := sh_strs ns h
  show (PyData.canLayAll0 (ns.map PyData.str) && decide (PyData.depthAll (ns.map PyData.str) + 1 ≤ 64)) = true
  rw [h1, h2]; rfl
theorem str_eq {i j : Str} : decide (V.str i = V.str j) = decide (i = j) := by rw [Bool.eq_iff_iff]; simp
/-- _law_first(words) -/
def spLf : Sp := fun vs H Q _ => ∃ (l : Addr) (ws : List Str), vs = [.ref l] ∧ H l = some (.lst (ws.map V.str)) ∧ ws.length ≤ 100 ∧ (∀ x ∈ ws, PyData.canLay0 (.str x) = true) ∧ ∀ H', Same H H' → Q (.str (firstW ws)) H'
abbrev N__law_first : List Str := ["_law_words", "_law_some", "_law_word_here"]
theorem ok_law_first (D : Def K mg "_law_first" 78) (T : Txt K mg a) : CalX P w K mg base 1 "_law_first" spLf := by
  refine calx (N := N__law_first) (ps := ["_law_words"]) D (by decide +kernel) (fun vs H Q E h => ?_) (fun _ _ _ _ _ _ us hl => match us, hl with | [_], _ => rfl) (fun f cdv A outer s H vs Q E hr nd tk pn h => ⟨_, (pss_cons (ps_setLc (i := 1) (own := [("_law_word_here", 2)]) rfl nd rfl rfl (sw_true rfl rfl rfl (by decide +kernel)) (pi_sq (pv 0)) (blkOk_by (own := [("_law_word_here", 2)]) (N := N__law_first) (sc := defScope (top 78)) (by decide +kernel)) (fun _ _ _ _ _ => (pg_name (i := 2) nd rfl (Or.inl rfl))) (fun _ _ _ _ _ => (pts_one (pt_cmpR op_ne (pv 2) pe_str (nomark _)))) (fun _ _ _ _ _ => (pv 2)))
      (pss_one (ps_ret (pe_ifExp (pt_cmpR (opK_neD (K := K) rfl hr.units) (pv 1) (pe_lst pa_nil) (nomark _)) (pe_ix (ixK (K := K) rfl) (pv 1) pe_int (fun _ _ => rfl)) pe_str)))), ?_⟩)
  · obtain ⟨_, _, rfl, _⟩ := h
    rfl
  · obtain ⟨l, ws, rfl, hl, h100, hlay, q⟩ := h
    clear tk pn nd hr
    walk_at "st"
    walk_at "r0"
    walk_at "lp"
    walk_at "r0"
    refine ⟨true, _, sqA_l hl, fun D1 hD1 => ?_⟩
    refine lcV (fun i => !decide (ws.getD i "none" = ("none" : Str))) (fun i => .str (ws.getD i "none")) hD1 (by rw [List.length_map]; omega) (fun H' e => sqA_l (e _ _ hl)) (fun i v H1 H2 acc Nx hi e1 ha y k1 k2 => ?_) (fun H2 e2 h => ?_)
    · simp only [yV] at y
      obtain ⟨rfl, rfl⟩ := y
      have hgi : (ws.map V.str).getD i .non = .str (ws.getD i "none") := by
        rw [List.length_map] at hi
        rw [List.getD_eq_getElem?_getD, List.getElem?_map, List.getElem?_eq_getElem hi, List.getD_eq_getElem?_getD, List.getElem?_eq_getElem hi]
        rfl
      rw [hgi]
      refine ⟨rfl, _, rfl, ?_⟩
      rw [str_eq]
      cases hd : decide (ws.getD i "none" = ("none" : Str)) with
      | true =>
        rw [if_neg (by decide)]
        exact k2 (by rw [hd]; rfl) _ (Same.refl _)
      | false =>
        rw [if_pos (by decide)]
        exact k1 (by rw [hd]; rfl) _ (Same.refl _)
    · rw [show (ws.map V.str).length = ws.length by simp, kept_filterS (p := fun x => !decide (x = ("none" : Str))) (f := V.str)] at h
      refine ⟨Nat.zero_le _, fun p hp => ?_⟩
      have e3 := same_new (o := .lst []) (Same.refl H2) hp
      have h3 : upd H2 p (.lst []) p = some (.lst ([] : List V)) := upd_same
      generalize upd H2 p (.lst []) = H3 at e3 h3 ⊢
      have hD3 := e3 _ _ h
      have q' := q H3 (e2.trans e3)
      unfold firstW at q'
      have hly : ∀ x ∈ ws.filter (fun x => !decide (x = ("none" : Str))), PyData.canLay0 (.str x) = true := fun x hx => hlay x (List.mem_filter.mp hx).1
      generalize ws.filter (fun x => !decide (x = ("none" : Str))) = ys at hD3 q' hly ⊢
      refine ne_nilL hD3 (dp_strs _) (sh_strL _ hly) h3 ⟨_, rfl, ?_⟩
      cases ys with
      | nil =>
        rw [if_neg (by decide)]
        exact q'
      | cons y ys =>
        rw [if_pos (by rfl)]
        exact ix_l hD3 (atI_nat (k := 0) rfl) q'
/-- _law_prices_word(prices, width) -/
def prW (H : Hp) (p : V) (w : Nat) : Str := if prB H p w = true then "none" else "prices"
def spLw (a : Ad) : Sp := fun vs H Q _ => ∃ (p : V) (w : Nat), vs = [p, .int (w : Nat)] ∧ TgP a.CT H p ∧ ∀ H', Same H H' → Q (.str (prW H p w)) H'
abbrev N__law_prices_word : List Str := ["_law_prices", "_law_width", "_law_price"]
theorem ok_law_prices_word (D : Def K mg "_law_prices_word" 79) (T : Txt K mg a) (M : TabM P w K mg base a.CT) (c__law_is_number : CalX P w K mg base 1 "_law_is_number" (spNum a.CT)) : CalX P w K mg base 3 "_law_prices_word" (spLw a) := by
  refine calx (N := N__law_prices_word) (ps := ["_law_prices", "_law_width"]) D (by decide +kernel) (fun vs H Q E h => ?_) (fun _ _ _ _ _ _ us hl => match us, hl with | [_, _], _ => rfl) (fun f cdv A outer s H vs Q E hr nd tk pn h => ⟨_, (pss_cons (ps_if (PW.pt (pw_or (pt_not (pt_val (pe_callB (call_isB T.k) (by rfl) T.isinstance bi_isinstance (pa_cons (pv 0) (pa_cons (pe_bltn (v := .ty "tuple") (by rfl) T.tuple bi_tuple rfl) pa_nil))))) (pw_or1 (pt_cmpR op_ne (pe_callB (call_lenK (K := K) rfl M hr (by decide)) (by rfl) T.len bi_len (pa_cons (pv 0) pa_nil)) (pv 1) (nomark _)))))
      (pss_one (ps_ret pe_str))
      pss_nil)
      (pss_one (ps_ret (pe_ifExp (pt_val (pe_callB (crK_all (K := K) rfl rfl) (by rfl) T.all bi_all (pa_cons (pe_lc (own := [("_law_price", 2)]) rfl nd (pi_sq (pv 0)) (blkOk_by (own := [("_law_price", 2)]) (N := N__law_prices_word) (sc := defScope (top 79)) (by decide +kernel)) (fun _ _ _ _ _ => (pg_name (i := 2) nd rfl (Or.inl rfl))) (fun _ _ _ _ _ => pts_nil) (fun _ _ _ _ _ => (pe_cx c__law_is_number hr (by decide) tk0 (pa_cons (pv 2) (pa_cons pe_int (pa_cons pe_int pa_nil)))))) pa_nil))) pe_str pe_str)))), ?_⟩)
  · obtain ⟨_, _, rfl, _⟩ := h
    rfl
  · obtain ⟨p, wd, rfl, gp2, q⟩ := h
    clear tk pn nd hr
    walk_at "st"
    walk_at "r0"
    have no : prB H p wd = false → Q (.str "prices") H := fun h => by
      have z := q H (Same.refl H)
      unfold prW at z
      rw [h] at z
      exact z
    refine ⟨gp2.1, ?_⟩
    obtain ⟨g1, g2⟩ := gp2
    cases g1 with
    | tup hp =>
      rename_i pa xs
      obtain ⟨gx, gl⟩ := g2 pa xs rfl hp
      simp only [isB, hp, beq_self_eq_true, Bool.not_true, Bool.false_eq_true, if_false]
      refine len_t hp ⟨rfl, _, rfl, ?_⟩
      have pb : prB H (.ref pa) wd = (decide (xs.length = wd) && xs.all fun x => isNum x 0 9) := by unfold prB; simp only [hp]
      by_cases hxl : xs.length = wd
      · rw [if_neg (by rw [dec_int]; simp; omega)]
        rw [decide_eq_true hxl, Bool.true_and] at pb
        walk_at "r0"
        walk_at "lp"
        walk_at "r0"
        simp only [spNum]
        walk_at "ex"
        refine ⟨false, xs, sqA_t hp, fun D hD => ?_⟩
        refine lcA (fun i => .bl (isNum (xs.getD i .non) 0 9)) hD (by omega) (fun H' e => sqA_t (e _ _ hp)) (fun i v H1 H2 acc Nx hi e1 ha y k => ?_) (fun H' e h => ?_)
        · obtain ⟨rfl, rfl⟩ := y
          exact ⟨(gx _ (getD_lt hi rfl)).same e1, k _ (Same.refl _)⟩
        · refine all_l (bs := (List.range xs.length).map fun i => isNum (xs.getD i .non) 0 9) (by rw [h, mapmap]) ⟨_, rfl, ?_⟩
          rw [all_getD (f := fun v => isNum v 0 9)]
          have z := q H' e
          unfold prW at z
          rw [pb] at z
          cases hb : xs.all fun x => isNum x 0 9 with
          | true => rw [hb] at z; exact z
          | false => rw [hb] at z; exact z
      · rw [if_pos (by rw [dec_int]; simp; omega)]
        exact no (by rw [pb]; simp [hxl])
    | lst h => simp only [isB, h]; exact no (by unfold prB; simp only [h])
    | dK h => simp only [isB, h]; exact no (by unfold prB; simp only [h])
    | tab h => simp only [isB, h]; exact no (by unfold prB; simp only [h])
    | _ => exact no rfl
end
end G


set_option Elab.async false
set_option linter.all false
set_option maxRecDepth 100000
set_option maxHeartbeats 4000000
set_option pp.deepTerms true
set_option pp.maxSteps 100000
set_option format.width 230
namespace G
open PySem PySem.Spec PyProof.Rows L2
local macro_rules | `(tactic| walk_at "rd") => `(tactic| try simp only [cxOf_K, tSeq, tIfS, tTest, tB, tCB, tCons, tNil, tC, tVar, tOp, tUn, tAndV, tOrV, tNotV, tAnd, tOr, tNot, tIf, tChain, tRet, tRetN, tAsg, gName, tDrop, tNext, tCallS, WE, rI0, rI, rU, L2.start, tYes, tLc, tFor, gTup, gCons, gNil, tPar, tPar3, tAug, ipI, tWidth, tCall, tMeth, tMake, tFld, tRows, tTable, sFld, rMulT, rSumT, gSub, tBM, rAppend, rSetL, rExtend, rSlL, rSlQ, tCol, Int.toNat_natCast,  tSl, tNoPart, tPart, tTup, tLst, tNever, itu_g, sDPut, tDNewK, tDNewN, tDispN, rSetN, rIxN, rInN, tGetN, rGetN, iKN, iIN, iRg3, iRng3, rGetL, tAugS, tNo, rCopyN, rRep,
  List.map_cons, List.map_nil, List.length_cons, List.length_nil, List.cons_append, List.nil_append, List.replicate, Nat.reduceAdd, Nat.reduceSub, Nat.zero_add, Nat.sub_self,
  List.getElem?_cons_zero, List.getElem?_cons_succ, List.set_cons_zero, List.set_cons_succ, wipe, Option.some.injEq, exists_eq_left', exists_eq_left, V.bl.injEq, V.int.injEq, ref_inj, ty_inj, if_true, if_false, Bool.false_eq_true, Bool.true_eq_false, exists_const, exists_and_left, true_and, and_true, List.cons.injEq,
  isB_int, isB_bool, isB_tuple, isB_list, isT_at, iSq, iRg1, iRg2, iZ2, iZ3, iEn])
local macro_rules | `(tactic| walk_at "r1") => `(tactic| try simp only [cxOf_K, tSeq, tIfS, tTest, tB, tCB, tCons, tNil, tC, tVar, tOp, tUn, tAndV, tOrV, tNotV, tAnd, tOr, tNot, tIf, tChain, tRet, tRetN, tAsg, gName, tDrop, tNext, tCallS, WE, rI0, rI, rU, L2.start, tYes, gTup, gCons, gNil, tPar, tPar3, tAug, ipI, tWidth, tCall, tMeth, tMake, tFld, tRows, tTable, sFld, rMulT, rSumT, gSub, tBM, rAppend, rSetL, rExtend, rSlL, rSlQ, tCol, Int.toNat_natCast,  tSl, tNoPart, tPart, tTup, tLst, tNever, itu_g, sDPut, tDNewK, tDNewN, tDispN, rSetN, rIxN, rInN, tGetN, rGetN, iKN, iIN, iRg3, iRng3, rGetL, tAugS, tNo, rCopyN, rRep,
  List.map_cons, List.map_nil, List.length_cons, List.length_nil, List.cons_append, List.nil_append, List.replicate, Nat.reduceAdd, Nat.reduceSub, Nat.zero_add, Nat.sub_self,
  List.getElem?_cons_zero, List.getElem?_cons_succ, List.set_cons_zero, List.set_cons_succ, wipe, Option.some.injEq, exists_eq_left', exists_eq_left, V.bl.injEq, V.int.injEq, ref_inj, ty_inj, if_true, if_false, Bool.false_eq_true, Bool.true_eq_false, exists_const, exists_and_left, true_and, and_true, List.cons.injEq,
  isB_int, isB_bool, isB_tuple, isB_list, isT_at, iSq, iRg1, iRg2, iZ2, iZ3, iEn])
local macro_rules | `(tactic| walk_at "r0") => `(tactic| try simp only [cxOf_K, tIfS, tTest, tB, tCB, tCons, tNil, tC, tVar, tOp, tUn, tAndV, tOrV, tNotV, tAnd, tOr, tNot, tIf, tChain, tRet, tRetN, tAsg, gName, tDrop, tNext, tCallS, WE, rI0, rI, rU, L2.start, tYes, gTup, gCons, gNil, tPar, tPar3, tAug, ipI, tWidth, tCall, tMeth, tMake, tFld, tRows, tTable, sFld, rMulT, rSumT, gSub, tBM, rAppend, rSetL, rExtend, rSlL, rSlQ, tCol, Int.toNat_natCast,  tSl, tNoPart, tPart, tTup, tLst, tNever, itu_g, sDPut, tDNewK, tDNewN, tDispN, rSetN, rIxN, rInN, tGetN, rGetN, iKN, iIN, iRg3, iRng3, rGetL, tAugS, tNo, rCopyN, rRep,
  List.map_cons, List.map_nil, List.length_cons, List.length_nil, List.cons_append, List.nil_append, List.replicate, Nat.reduceAdd, Nat.reduceSub, Nat.zero_add, Nat.sub_self,
  List.getElem?_cons_zero, List.getElem?_cons_succ, List.set_cons_zero, List.set_cons_succ, wipe, Option.some.injEq, exists_eq_left', exists_eq_left, V.bl.injEq, V.int.injEq, ref_inj, ty_inj, if_true, if_false, Bool.false_eq_true, Bool.true_eq_false, exists_const, exists_and_left, true_and, and_true, List.cons.injEq,
  isB_int, isB_bool, isB_tuple, isB_list, isT_at, iSq, iRg1, iRg2, iZ2, iZ3, iEn])
local macro_rules | `(tactic| walk_at "st") => `(tactic| ((try dsimp only); rw [tSeq_def]))
local macro_rules | `(tactic| walk_at "lp") => `(tactic| first | rw [tFor_def] | rw [tLc_def] | rw [tWhile_def])
local macro_rules | `(tactic| walk_at "ex") => `(tactic| simp only [List.cons.injEq, and_true, true_and, and_assoc, exists_and_left, exists_eq_left', exists_eq_left, exists_eq_right, exists_const, V.int.injEq, V.bl.injEq, ref_inj, Bool.not_true, Bool.not_false, Bool.false_eq_true, if_true, if_false, Bool.true_eq_false])
section
variable {P : Program} {w : World} {K : PySem.W.Frag} {mg : Str → Option Value} {base : Heap} {a : Ad}
/-! ### odd values -/
inductive Odd (CT : Addr) (H : Hp) : V → Prop where
  | non : Odd CT H .non
  | bl (b : Bool) : Odd CT H (.bl b)
  | int (i : Int) : Odd CT H (.int i)
  | str (s : Str) : Odd CT H (.str s)
  | lst {l : Addr} {ns : List Int} (h : H l = some (.lst (ns.map V.int))) (hn : ns.length ≤ 6) : Odd CT H (.ref l)
  | tup {l : Addr} {ns : List Int} (h : H l = some (.tup (ns.map V.int))) (hn : 1 ≤ ns.length) (hm : ns.length ≤ 6) : Odd CT H (.ref l)
  | tt {l t : Addr} {ns : List Int} (h : H l = some (.tup [.ref t])) (ht : H t = some (.tup (ns.map V.int))) : Odd CT H (.ref l)
  | dK {l : Addr} (h : H l = some (.dK [])) : Odd CT H (.ref l)
theorem Odd.same {CT : Addr} {H H' : Hp} {v : V} (o : Odd CT H v) (e : Same H H') : Odd CT H' v := by
  cases o with
  | non => exact .non
  | bl b => exact .bl b
  | int i => exact .int i
  | str s => exact .str s
  | lst h hn => exact .lst (e _ _ h) hn
  | tup h h1 h2 => exact .tup (e _ _ h) h1 h2
  | tt h ht => exact .tt (e _ _ h) (e _ _ ht)
  | dK h => exact .dK (e _ _ h)
theorem DrawAt.ne {K : PySem.W.Frag} {H : Hp} {d l sc0 : Addr} {o : HO} (hd : DrawAt K sc0 H d) (h : H l = some o) (no : ∀ b vs, o ≠ .lst (.ref b :: vs)) : l ≠ d := fun e => by
  obtain ⟨i, h1, _⟩ := hd
  rw [e, h1] at h
  exact no _ _ (Option.some.inj h).symm
theorem ints_no {ns : List Int} : ∀ b vs, HO.lst (ns.map V.int) ≠ .lst (.ref b :: vs) := fun b vs e => by
  cases ns with
  | nil => injection e with e; exact nomatch e
  | cons n ns => injection e with e; exact nomatch e
theorem Odd.x {K : PySem.W.Frag} {CT d sc0 : Addr} {H H' : Hp} {v : V} (o : Odd CT H v) (hd : DrawAt K sc0 H d) (e : SameX d H H') : Odd CT H' v := by
  cases o with
  | non => exact .non
  | bl b => exact .bl b
  | int i => exact .int i
  | str s => exact .str s
  | lst h hn => exact .lst (e _ _ h (hd.ne h ints_no)) hn
  | tup h h1 h2 => exact .tup (e _ _ h (hd.ne h fun _ _ => nofun)) h1 h2
  | tt h ht => exact .tt (e _ _ h (hd.ne h fun _ _ => nofun)) (e _ _ ht (hd.ne ht fun _ _ => nofun))
  | dK h => exact .dK (e _ _ h (hd.ne h fun _ _ => nofun))
abbrev N__law_odd : List Str := ["_law_draw"]
/-- _law_odd(draw) -/
def spLo (K : PySem.W.Frag) (a : Ad) : Sp := fun vs H Q _ => ∃ (d sc0 : Addr), vs = [.ref d] ∧ DrawAt K sc0 H d ∧ ∀ v H', Odd a.CT H' v → SameX d H H' → DrawAt K sc0 H' d → Q v H'
theorem ok_law_odd (D : Def K mg "_law_odd" 76) (T : Txt K mg a) (c__law_pick : CalX P w K mg base 5 "_law_pick" (spLp K)) : CalX P w K mg base 6 "_law_odd" (spLo K a) := by
  refine calx (N := N__law_odd) (ps := ["_law_draw"]) D (by decide +kernel) (fun vs H Q E h => ?_) (fun _ _ _ _ _ _ us hl => match us, hl with | [_], _ => rfl) (fun f cdv A outer s H vs Q E hr nd tk pn h => ⟨_, (pss_one (ps_ret (pe_cx c__law_pick hr (by decide) tk (pa_cons (pv 0) (pa_cons (pe_lst (pa_cons pe_bl (pa_cons pe_non (pa_cons pe_str (pa_cons (pe_un un_neg pe_int) (pa_cons pe_int (pa_cons (pe_tup (pa_cons pe_int pa_nil)) (pa_cons (pe_lst pa_nil) (pa_cons pe_dnewK (pa_cons pe_str (pa_cons (pe_tup (pa_cons (pe_tup (pa_cons pe_int (pa_cons pe_int pa_nil))) pa_nil)) (pa_cons (pe_lst (pa_cons pe_int (pa_cons pe_int pa_nil))) (pa_cons (pe_un un_neg pe_int) (pa_cons (pe_tup (pa_cons pe_int (pa_cons pe_int (pa_cons pe_int pa_nil)))) pa_nil)))))))))))))) pa_nil))))), ?_⟩)
  · obtain ⟨_, _, rfl, _⟩ := h
    rfl
  · obtain ⟨d, sc0, rfl, hd, q⟩ := h
    clear tk pn nd hr
    walk_at "rd"
    refine ⟨by decide, fun p1 hp1 => ?_⟩
    have e1 : Same H (upd H p1 (.tup [.int 0])) := same_new (Same.refl H) hp1
    have v1 : upd H p1 (.tup [.int 0]) p1 = some (.tup [.int 0]) := upd_same
    generalize upd H p1 _ = H1 at e1 v1 ⊢
    refine ⟨by decide, fun p2 hp2 => ?_⟩
    have e2 : Same H1 (upd H1 p2 (.lst [])) := same_new (Same.refl H1) hp2
    have v2 : upd H1 p2 (.lst []) p2 = some (.lst []) := upd_same
    generalize upd H1 p2 _ = H2 at e2 v2 ⊢
    intro p3 hp3
    have e3 : Same H2 (upd H2 p3 (.dK [])) := same_new (Same.refl H2) hp3
    have v3 : upd H2 p3 (.dK []) p3 = some (.dK []) := upd_same
    generalize upd H2 p3 _ = H3 at e3 v3 ⊢
    refine ⟨by decide, fun p4 hp4 => ?_⟩
    have e4 : Same H3 (upd H3 p4 (.tup [.int 0, .int 1])) := same_new (Same.refl H3) hp4
    have v4 : upd H3 p4 (.tup [.int 0, .int 1]) p4 = some (.tup [.int 0, .int 1]) := upd_same
    generalize upd H3 p4 _ = H4 at e4 v4 ⊢
    refine ⟨by decide, fun p5 hp5 => ?_⟩
    have e5 : Same H4 (upd H4 p5 (.tup [.ref p4])) := same_new (Same.refl H4) hp5
    have v5 : upd H4 p5 (.tup [.ref p4]) p5 = some (.tup [.ref p4]) := upd_same
    generalize upd H4 p5 _ = H5 at e5 v5 ⊢
    refine ⟨by decide, fun p6 hp6 => ?_⟩
    have e6 : Same H5 (upd H5 p6 (.lst [.int 1, .int 2])) := same_new (Same.refl H5) hp6
    have v6 : upd H5 p6 (.lst [.int 1, .int 2]) p6 = some (.lst [.int 1, .int 2]) := upd_same
    generalize upd H5 p6 _ = H6 at e6 v6 ⊢
    refine ⟨by decide, fun p7 hp7 => ?_⟩
    have e7 : Same H6 (upd H6 p7 (.tup [.int 1, .int 2, .int 3])) := same_new (Same.refl H6) hp7
    have v7 : upd H6 p7 (.tup [.int 1, .int 2, .int 3]) p7 = some (.tup [.int 1, .int 2, .int 3]) := upd_same
    generalize upd H6 p7 _ = H7 at e7 v7 ⊢
    refine ⟨by decide, fun p8 hp8 => ?_⟩
    have e8 : Same H7 (upd H7 p8 (.lst [.bl true, .non, .str "0", .int (-1), .int 99, .ref p1, .ref p2, .ref p3, .str "table", .ref p5, .ref p6, .int (-7), .ref p7])) := same_new (Same.refl H7) hp8
    have v8 : upd H7 p8 (.lst [.bl true, .non, .str "0", .int (-1), .int 99, .ref p1, .ref p2, .ref p3, .str "table", .ref p5, .ref p6, .int (-7), .ref p7]) p8 = some (.lst [.bl true, .non, .str "0", .int (-1), .int 99, .ref p1, .ref p2, .ref p3, .str "table", .ref p5, .ref p6, .int (-7), .ref p7]) := upd_same
    generalize upd H7 p8 _ = H8 at e8 v8 ⊢
    have d8 : DrawAt K sc0 H8 d := (((((((hd.same e1).same e2).same e3).same e4).same e5).same e6).same e7).same e8
    have all : ∀ x ∈ ([.bl true, .non, .str "0", .int (-1), .int 99, .ref p1, .ref p2, .ref p3, .str "table", .ref p5, .ref p6, .int (-7), .ref p7] : List V), Odd a.CT H8 x := by
      intro x hx
      simp only [List.mem_cons, List.not_mem_nil, or_false] at hx
      rcases hx with rfl | rfl | rfl | rfl | rfl | rfl | rfl | rfl | rfl | rfl | rfl | rfl | rfl
      · exact .bl true
      · exact .non
      · exact .str _
      · exact .int _
      · exact .int _
      · exact .tup (ns := [0]) (((((((e2.trans e3).trans e4).trans e5).trans e6).trans e7).trans e8) _ _ v1) (by decide) (by decide)
      · exact .lst (ns := []) ((((((e3.trans e4).trans e5).trans e6).trans e7).trans e8) _ _ v2) (by decide)
      · exact .dK (((((e4.trans e5).trans e6).trans e7).trans e8) _ _ v3)
      · exact .str _
      · exact .tt (ns := [0, 1]) (((e6.trans e7).trans e8) _ _ v5) ((((e5.trans e6).trans e7).trans e8) _ _ v4)
      · exact .lst (ns := [1, 2]) ((e7.trans e8) _ _ v6) (by decide)
      · exact .int _
      · exact .tup (ns := [1, 2, 3]) (e8 _ _ v7) (by decide) (by decide)
    have e18 : Same H H8 := (((((((e1.trans e2).trans e3).trans e4).trans e5).trans e6).trans e7).trans e8)
    refine ⟨d, p8, sc0, _, rfl, d8, v8, Nat.succ_pos _, ?_, fun i H9 hi x9 d9 => ?_⟩
    · obtain ⟨c, hsc, _⟩ := hd
      exact Ne.symm (ne_of_none (((((((e1.trans e2).trans e3).trans e4).trans e5).trans e6).trans e7) _ _ hsc) hp8)
    · refine q _ H9 ((all _ (getD_mem hi)).x d8 x9) (fun b o hb hne => x9 b o (e18 b o hb) hne) d9
end
end G


set_option Elab.async false
set_option linter.all false
set_option maxRecDepth 100000
set_option maxHeartbeats 4000000
set_option pp.deepTerms true
set_option pp.maxSteps 100000
set_option format.width 230
namespace G
open PySem PySem.Spec PyProof.Rows L2
local macro_rules | `(tactic| walk_at "rd") => `(tactic| try simp only [cxOf_K, tSeq, tIfS, tTest, tB, tCB, tCons, tNil, tC, tVar, tOp, tUn, tAndV, tOrV, tNotV, tAnd, tOr, tNot, tIf, tChain, tRet, tRetN, tAsg, gName, tDrop, tNext, tCallS, WE, rI0, rI, rU, L2.start, tYes, tLc, tFor, gTup, gCons, gNil, tPar, tPar3, tAug, ipI, tWidth, tCall, tMeth, tMake, tFld, tRows, tTable, sFld, rMulT, rSumT, gSub, tBM, rAppend, rSetL, rExtend, rSlL, rSlQ, tCol, Int.toNat_natCast,  tSl, tNoPart, tPart, tTup, tLst, tNever, itu_g, sDPut, tDNewK, tDNewN, tDispN, rSetN, rIxN, rInN, tGetN, rGetN, iKN, iIN, iRg3, iRng3, rGetL, tAugS, tNo, rCopyN, rRep,
  List.map_cons, List.map_nil, List.length_cons, List.length_nil, List.cons_append, List.nil_append, List.replicate, Nat.reduceAdd, Nat.reduceSub, Nat.zero_add, Nat.sub_self,
  List.getElem?_cons_zero, List.getElem?_cons_succ, List.set_cons_zero, List.set_cons_succ, wipe, Option.some.injEq, exists_eq_left', exists_eq_left, V.bl.injEq, V.int.injEq, ref_inj, ty_inj, if_true, if_false, Bool.false_eq_true, Bool.true_eq_false, exists_const, exists_and_left, true_and, and_true, List.cons.injEq,
  isB_int, isB_bool, isB_tuple, isB_list, isT_at, iSq, iRg1, iRg2, iZ2, iZ3, iEn])
local macro_rules | `(tactic| walk_at "r1") => `(tactic| try simp only [cxOf_K, tSeq, tIfS, tTest, tB, tCB, tCons, tNil, tC, tVar, tOp, tUn, tAndV, tOrV, tNotV, tAnd, tOr, tNot, tIf, tChain, tRet, tRetN, tAsg, gName, tDrop, tNext, tCallS, WE, rI0, rI, rU, L2.start, tYes, gTup, gCons, gNil, tPar, tPar3, tAug, ipI, tWidth, tCall, tMeth, tMake, tFld, tRows, tTable, sFld, rMulT, rSumT, gSub, tBM, rAppend, rSetL, rExtend, rSlL, rSlQ, tCol, Int.toNat_natCast,  tSl, tNoPart, tPart, tTup, tLst, tNever, itu_g, sDPut, tDNewK, tDNewN, tDispN, rSetN, rIxN, rInN, tGetN, rGetN, iKN, iIN, iRg3, iRng3, rGetL, tAugS, tNo, rCopyN, rRep,
  List.map_cons, List.map_nil, List.length_cons, List.length_nil, List.cons_append, List.nil_append, List.replicate, Nat.reduceAdd, Nat.reduceSub, Nat.zero_add, Nat.sub_self,
  List.getElem?_cons_zero, List.getElem?_cons_succ, List.set_cons_zero, List.set_cons_succ, wipe, Option.some.injEq, exists_eq_left', exists_eq_left, V.bl.injEq, V.int.injEq, ref_inj, ty_inj, if_true, if_false, Bool.false_eq_true, Bool.true_eq_false, exists_const, exists_and_left, true_and, and_true, List.cons.injEq,
  isB_int, isB_bool, isB_tuple, isB_list, isT_at, iSq, iRg1, iRg2, iZ2, iZ3, iEn])
local macro_rules | `(tactic| walk_at "r0") => `(tactic| try simp only [cxOf_K, tIfS, tTest, tB, tCB, tCons, tNil, tC, tVar, tOp, tUn, tAndV, tOrV, tNotV, tAnd, tOr, tNot, tIf, tChain, tRet, tRetN, tAsg, gName, tDrop, tNext, tCallS, WE, rI0, rI, rU, L2.start, tYes, gTup, gCons, gNil, tPar, tPar3, tAug, ipI, tWidth, tCall, tMeth, tMake, tFld, tRows, tTable, sFld, rMulT, rSumT, gSub, tBM, rAppend, rSetL, rExtend, rSlL, rSlQ, tCol, Int.toNat_natCast,  tSl, tNoPart, tPart, tTup, tLst, tNever, itu_g, sDPut, tDNewK, tDNewN, tDispN, rSetN, rIxN, rInN, tGetN, rGetN, iKN, iIN, iRg3, iRng3, rGetL, tAugS, tNo, rCopyN, rRep,
  List.map_cons, List.map_nil, List.length_cons, List.length_nil, List.cons_append, List.nil_append, List.replicate, Nat.reduceAdd, Nat.reduceSub, Nat.zero_add, Nat.sub_self,
  List.getElem?_cons_zero, List.getElem?_cons_succ, List.set_cons_zero, List.set_cons_succ, wipe, Option.some.injEq, exists_eq_left', exists_eq_left, V.bl.injEq, V.int.injEq, ref_inj, ty_inj, if_true, if_false, Bool.false_eq_true, Bool.true_eq_false, exists_const, exists_and_left, true_and, and_true, List.cons.injEq,
  isB_int, isB_bool, isB_tuple, isB_list, isT_at, iSq, iRg1, iRg2, iZ2, iZ3, iEn])
local macro_rules | `(tactic| walk_at "st") => `(tactic| ((try dsimp only); rw [tSeq_def]))
local macro_rules | `(tactic| walk_at "lp") => `(tactic| first | rw [tFor_def] | rw [tLc_def] | rw [tWhile_def])
local macro_rules | `(tactic| walk_at "ex") => `(tactic| simp only [List.cons.injEq, and_true, true_and, and_assoc, exists_and_left, exists_eq_left', exists_eq_left, exists_eq_right, exists_const, V.int.injEq, V.bl.injEq, ref_inj, Bool.not_true, Bool.not_false, Bool.false_eq_true, if_true, if_false, Bool.true_eq_false])
section
variable {P : Program} {w : World} {K : PySem.W.Frag} {mg : Str → Option Value} {base : Heap} {a : Ad}
/-! ### some prices -/
theorem Tg.x {K : PySem.W.Frag} {CT d sc0 : Addr} {H H' : Hp} {v : V} (g : Tg CT H v) (hd : DrawAt K sc0 H d) (hd' : DrawAt K sc0 H' d) (e : SameX d H H') : Tg CT H' v := by
  cases g with
  | non => exact .non
  | bl b => exact .bl b
  | int i => exact .int i
  | str s => exact .str s
  | lst h =>
    rename_i b xs
    by_cases hb : b = d
    · subst hb
      obtain ⟨i, h1, _⟩ := hd'
      exact .lst h1
    · exact .lst (e _ _ h hb)
  | tup h => exact .tup (e _ _ h (hd.ne h fun _ _ => nofun))
  | dK h => exact .dK (e _ _ h (hd.ne h fun _ _ => nofun))
  | tab h => exact .tab (e _ _ h (hd.ne h fun _ _ => nofun))
theorem Odd.tgP {CT : Addr} {H : Hp} {v : V} (o : Odd CT H v) : TgP CT H v := by
  have inj : ∀ {l : Addr} {xs ys : List V}, H l = some (.tup xs) → H l = some (.tup ys) → xs = ys := fun h1 h2 => by
    rw [h1] at h2
    injection (Option.some.inj h2)
  cases o with
  | non => exact ⟨.non, fun _ _ h => nomatch h⟩
  | bl b => exact ⟨.bl b, fun _ _ h => nomatch h⟩
  | int i => exact ⟨.int i, fun _ _ h => nomatch h⟩
  | str s => exact ⟨.str s, fun _ _ h => nomatch h⟩
  | lst h hn => exact ⟨.lst h, fun b xs e hb => by cases e; rw [h] at hb; exact nomatch hb⟩
  | tup h h1 h2 =>
    refine ⟨.tup h, fun b xs e hb => ?_⟩
    cases e
    obtain rfl := inj h hb
    refine ⟨fun x hx => ?_, by rw [List.length_map]; omega⟩
    obtain ⟨i, _, rfl⟩ := List.mem_map.mp hx
    exact .int i
  | tt h ht =>
    refine ⟨.tup h, fun b xs e hb => ?_⟩
    cases e
    obtain rfl := inj h hb
    refine ⟨fun x hx => ?_, by rw [List.length_singleton]; omega⟩
    rw [List.mem_singleton] at hx
    subst hx
    exact .tup ht
  | dK h => exact ⟨.dK h, fun b xs e hb => by cases e; rw [h] at hb; exact nomatch hb⟩
theorem Odd.isT {CT : Addr} {H : Hp} {v : V} (o : Odd CT H v) : G.isT CT H v = false := by
  cases o with
  | non => rfl
  | bl b => rfl
  | int i => rfl
  | str s => rfl
  | lst h hn => unfold G.isT; simp only [h]
  | tup h h1 h2 => unfold G.isT; simp only [h]
  | tt h ht => unfold G.isT; simp only [h]
  | dK h => unfold G.isT; simp only [h]
theorem TgP.x {K : PySem.W.Frag} {CT d sc0 : Addr} {H H' : Hp} {v : V} (g : TgP CT H v) (hd : DrawAt K sc0 H d) (hd' : DrawAt K sc0 H' d) (e : SameX d H H') : TgP CT H' v := by
  refine ⟨g.1.x hd hd' e, fun b xs hv h => ?_⟩
  subst hv
  have key : ∃ ys, H b = some (.tup ys) := by
    obtain ⟨g1, _⟩ := g
    cases g1 with
    | lst hb =>
      by_cases hbd : b = d
      · subst hbd
        obtain ⟨i, h1, _⟩ := hd'
        rw [h1] at h
        exact nomatch h
      · rw [e _ _ hb hbd] at h
        exact nomatch h
    | tup hb => exact ⟨_, hb⟩
    | dK hb => rw [e _ _ hb (hd.ne hb fun _ _ => nofun)] at h; exact nomatch h
    | tab hb => rw [e _ _ hb (hd.ne hb fun _ _ => nofun)] at h; exact nomatch h
  obtain ⟨ys, hy⟩ := key
  have z := e _ _ hy (hd.ne hy fun _ _ => nofun)
  rw [h] at z
  have z2 : xs = ys := by injection (Option.some.inj z)
  subst z2
  obtain ⟨q1, q2⟩ := g.2 b xs rfl hy
  exact ⟨fun x hx => (q1 x hx).x hd hd' e, q2⟩
theorem tgP_rep {CT : Addr} {H : Hp} {r : Addr} {n : Nat} {i : Int} (h : H r = some (.tup (List.replicate n (.int i)))) (hn : n ≤ 100) : TgP CT H (.ref r) := by
  refine ⟨.tup h, fun b xs e hb => ?_⟩
  cases e
  rw [h] at hb
  have z : List.replicate n (V.int i) = xs := by injection (Option.some.inj hb)
  subst z
  refine ⟨fun x hx => ?_, by rw [List.length_replicate]; exact hn⟩
  obtain ⟨_, rfl⟩ := List.mem_replicate.mp hx
  exact .int i
theorem tgP_lst {CT : Addr} {H : Hp} {r : Addr} {xs : List V} (h : H r = some (.lst xs)) : TgP CT H (.ref r) := ⟨.lst h, fun b ys e hb => by cases e; rw [h] at hb; exact nomatch hb⟩
/-- _law_some_prices(draw, width) -/
def spLs2 (K : PySem.W.Frag) (a : Ad) : Sp := fun vs H Q _ => ∃ (d sc0 : Addr) (w : Nat), vs = [.ref d, .int (w : Nat)] ∧ DrawAt K sc0 H d ∧ 1 ≤ w ∧ w ≤ 4 ∧ ∀ v H', TgP a.CT H' v → SameX d H H' → DrawAt K sc0 H' d → Q v H'
abbrev N__law_some_prices : List Str := ["_law_draw", "_law_width", "_law_good"]
theorem ok_law_some_prices (D : Def K mg "_law_some_prices" 80) (T : Txt K mg a) (c__law_pick : CalX P w K mg base 5 "_law_pick" (spLp K)) (c__law_odd : CalX P w K mg base 6 "_law_odd" (spLo K a)) : CalX P w K mg base 7 "_law_some_prices" (spLs2 K a) := by
  refine calx (N := N__law_some_prices) (ps := ["_law_draw", "_law_width"]) D (by decide +kernel) (fun vs H Q E h => ?_) (fun _ _ _ _ _ _ us hl => match us, hl with | [_, _], _ => rfl) (fun f cdv A outer s H vs Q E hr nd tk pn h => ⟨_, (pss_cons (ps_set (i := 2) nd rfl (Or.inl rfl) (pe_op op_mulT (pe_tup (pa_cons pe_int pa_nil)) (pv 1)))
      (pss_one (ps_ret (pe_cx c__law_pick hr (by decide) tk (pa_cons (pv 0) (pa_cons (pe_lst (pa_cons (pv 2) (pa_cons (pv 2) (pa_cons (pv 2) (pa_cons (pe_op op_mulT (pe_tup (pa_cons pe_int pa_nil)) (pv 1)) (pa_cons (pe_op op_mulT (pe_tup (pa_cons pe_int pa_nil)) (pe_op op_add (pv 1) pe_int)) (pa_cons (pe_op op_rep (pe_lst (pa_cons pe_int pa_nil)) (pv 1)) (pa_cons (pe_cx c__law_odd hr (by decide) tk (pa_cons (pv 0) pa_nil)) (pa_cons (pe_op op_mulT (pe_tup (pa_cons pe_int pa_nil)) (pv 1)) pa_nil))))))))) pa_nil)))))), ?_⟩)
  · obtain ⟨_, _, _, rfl, _⟩ := h
    rfl
  · obtain ⟨d, sc0, wd, rfl, hd, w1, w4, q⟩ := h
    clear tk pn nd hr
    walk_at "st"
    walk_at "r0"
    refine ⟨by decide, fun p1 hp1 => ⟨.int 1, upd_same, by omega, by omega, fun r1 H1 e1 h1 => ?_⟩⟩
    have f1 : Same H H1 := fun b o h => e1 b o (same_new (Same.refl H) hp1 b o h)
    refine ⟨by decide, fun p2 hp2 => ⟨.int 10, upd_same, by omega, by omega, fun r2 H2 e2 h2 => ?_⟩⟩
    have f2 : Same H1 H2 := fun b o h => e2 b o (same_new (Same.refl H1) hp2 b o h)
    refine ⟨by decide, fun p3 hp3 => ⟨.int 1, upd_same, by omega, by omega, fun r3 H3 e3 h3 => ?_⟩⟩
    have f3 : Same H2 H3 := fun b o h => e3 b o (same_new (Same.refl H2) hp3 b o h)
    refine ⟨by decide, fun p4 hp4 => ⟨[.int 1], upd_same, by omega, by omega, by rw [List.length_singleton]; exact small' (by omega), fun r4 hr4 => ?_⟩⟩
    have f4a := same_new (o := .lst [.int 1]) (Same.refl H3) hp4
    generalize upd H3 p4 (.lst [.int 1]) = H4 at f4a hr4 ⊢
    have f4 := f4a.trans (same_new (o := .lst (List.replicate wd [V.int 1]).flatten) (Same.refl H4) hr4)
    have h4 : upd H4 r4 (.lst (List.replicate wd [V.int 1]).flatten) r4 = some (.lst (List.replicate wd [V.int 1]).flatten) := upd_same
    generalize upd H4 r4 (.lst (List.replicate wd [V.int 1]).flatten) = H5 at f4 h4 ⊢
    have f05 := ((f1.trans f2).trans f3).trans f4
    have d5 := hd.same f05
    refine ⟨d, sc0, rfl, d5, fun vo H6 ho x6 d6 => ⟨by decide, fun p7 hp7 => ⟨.int 0, upd_same, by omega, by omega, fun r7 H7 e7 h7 => ?_⟩⟩⟩
    have f7 : Same H6 H7 := fun b o h => e7 b o (same_new (Same.refl H6) hp7 b o h)
    refine ⟨by decide, fun p8 hp8 => ?_⟩
    have f8 := f7.trans (same_new (o := .lst [.ref r1, .ref r1, .ref r1, .ref r2, .ref r3, .ref r4, vo, .ref r7]) (Same.refl H7) hp8)
    have h7' : Same H7 (upd H7 p8 (.lst [.ref r1, .ref r1, .ref r1, .ref r2, .ref r3, .ref r4, vo, .ref r7])) := same_new (Same.refl H7) hp8
    have h8 : upd H7 p8 (.lst [.ref r1, .ref r1, .ref r1, .ref r2, .ref r3, .ref r4, vo, .ref r7]) p8 = some (.lst [.ref r1, .ref r1, .ref r1, .ref r2, .ref r3, .ref r4, vo, .ref r7]) := upd_same
    have dne : p8 ≠ d := by
      obtain ⟨c, hsc, _⟩ := d6.same f7
      exact Ne.symm (ne_of_none hsc hp8)
    generalize upd H7 p8 (.lst [.ref r1, .ref r1, .ref r1, .ref r2, .ref r3, .ref r4, vo, .ref r7]) = H8 at f8 h7' h8 ⊢
    have t1 : TgP a.CT H8 (.ref r1) := ((tgP_rep (n := wd) (((f2.trans f3).trans f4) _ _ h1) (by omega)).x d5 d6 x6).same f8
    have t2 : TgP a.CT H8 (.ref r2) := ((tgP_rep (n := wd) ((f3.trans f4) _ _ h2) (by omega)).x d5 d6 x6).same f8
    have t3 : TgP a.CT H8 (.ref r3) := ((tgP_rep (f4 _ _ h3) (by omega)).x d5 d6 x6).same f8
    have t4 : TgP a.CT H8 (.ref r4) := ((tgP_lst h4).x d5 d6 x6).same f8
    have t5 : TgP a.CT H8 vo := (ho.same f8).tgP
    have t6 : TgP a.CT H8 (.ref r7) := tgP_rep (n := wd) (h7' _ _ h7) (by omega)
    have all : ∀ x ∈ ([.ref r1, .ref r1, .ref r1, .ref r2, .ref r3, .ref r4, vo, .ref r7] : List V), TgP a.CT H8 x := by
      intro x hx
      simp only [List.mem_cons, List.not_mem_nil, or_false] at hx
      rcases hx with rfl | rfl | rfl | rfl | rfl | rfl | rfl | rfl <;> assumption
    have d8 := d6.same f8
    refine ⟨d, p8, sc0, _, rfl, d8, h8, Nat.succ_pos _, dne, fun i H9 hi x9 d9 => ?_⟩
    exact q _ H9 ((all _ (getD_mem hi)).x d8 d9 x9) (fun b o hb hne => x9 b o (f8 b o (x6 b o (f05 b o hb) hne)) hne) d9
end
end G


set_option Elab.async false
set_option linter.all false
set_option maxRecDepth 100000
set_option maxHeartbeats 4000000
set_option pp.deepTerms true
set_option pp.maxSteps 100000
set_option format.width 230
namespace G
open PySem PySem.Spec PyProof.Rows L2
local macro_rules | `(tactic| walk_at "rd") => `(tactic| try simp only [cxOf_K, tSeq, tIfS, tTest, tB, tCB, tCons, tNil, tC, tVar, tOp, tUn, tAndV, tOrV, tNotV, tAnd, tOr, tNot, tIf, tChain, tRet, tRetN, tAsg, gName, tDrop, tNext, tCallS, WE, rI0, rI, rU, L2.start, tYes, tLc, tFor, gTup, gCons, gNil, tPar, tPar3, tAug, ipI, tWidth, tCall, tMeth, tMake, tFld, tRows, tTable, sFld, rMulT, rSumT, gSub, tBM, rAppend, rSetL, rExtend, rSlL, rSlQ, tCol, Int.toNat_natCast,  tSl, tNoPart, tPart, tTup, tLst, tNever, itu_g, sDPut, tDNewK, tDNewN, tDispN, rSetN, rIxN, rInN, tGetN, rGetN, iKN, iIN, iRg3, iRng3, rGetL, tAugS, tNo, rCopyN, rRep,
  List.map_cons, List.map_nil, List.length_cons, List.length_nil, List.cons_append, List.nil_append, List.replicate, Nat.reduceAdd, Nat.reduceSub, Nat.zero_add, Nat.sub_self,
  List.getElem?_cons_zero, List.getElem?_cons_succ, List.set_cons_zero, List.set_cons_succ, wipe, Option.some.injEq, exists_eq_left', exists_eq_left, V.bl.injEq, V.int.injEq, ref_inj, ty_inj, if_true, if_false, Bool.false_eq_true, Bool.true_eq_false, exists_const, exists_and_left, true_and, and_true, List.cons.injEq,
  isB_int, isB_bool, isB_tuple, isB_list, isT_at, iSq, iRg1, iRg2, iZ2, iZ3, iEn])
local macro_rules | `(tactic| walk_at "r1") => `(tactic| try simp only [cxOf_K, tSeq, tIfS, tTest, tB, tCB, tCons, tNil, tC, tVar, tOp, tUn, tAndV, tOrV, tNotV, tAnd, tOr, tNot, tIf, tChain, tRet, tRetN, tAsg, gName, tDrop, tNext, tCallS, WE, rI0, rI, rU, L2.start, tYes, gTup, gCons, gNil, tPar, tPar3, tAug, ipI, tWidth, tCall, tMeth, tMake, tFld, tRows, tTable, sFld, rMulT, rSumT, gSub, tBM, rAppend, rSetL, rExtend, rSlL, rSlQ, tCol, Int.toNat_natCast,  tSl, tNoPart, tPart, tTup, tLst, tNever, itu_g, sDPut, tDNewK, tDNewN, tDispN, rSetN, rIxN, rInN, tGetN, rGetN, iKN, iIN, iRg3, iRng3, rGetL, tAugS, tNo, rCopyN, rRep,
  List.map_cons, List.map_nil, List.length_cons, List.length_nil, List.cons_append, List.nil_append, List.replicate, Nat.reduceAdd, Nat.reduceSub, Nat.zero_add, Nat.sub_self,
  List.getElem?_cons_zero, List.getElem?_cons_succ, List.set_cons_zero, List.set_cons_succ, wipe, Option.some.injEq, exists_eq_left', exists_eq_left, V.bl.injEq, V.int.injEq, ref_inj, ty_inj, if_true, if_false, Bool.false_eq_true, Bool.true_eq_false, exists_const, exists_and_left, true_and, and_true, List.cons.injEq,
  isB_int, isB_bool, isB_tuple, isB_list, isT_at, iSq, iRg1, iRg2, iZ2, iZ3, iEn])
local macro_rules | `(tactic| walk_at "r0") => `(tactic| try simp only [cxOf_K, tIfS, tTest, tB, tCB, tCons, tNil, tC, tVar, tOp, tUn, tAndV, tOrV, tNotV, tAnd, tOr, tNot, tIf, tChain, tRet, tRetN, tAsg, gName, tDrop, tNext, tCallS, WE, rI0, rI, rU, L2.start, tYes, gTup, gCons, gNil, tPar, tPar3, tAug, ipI, tWidth, tCall, tMeth, tMake, tFld, tRows, tTable, sFld, rMulT, rSumT, gSub, tBM, rAppend, rSetL, rExtend, rSlL, rSlQ, tCol, Int.toNat_natCast,  tSl, tNoPart, tPart, tTup, tLst, tNever, itu_g, sDPut, tDNewK, tDNewN, tDispN, rSetN, rIxN, rInN, tGetN, rGetN, iKN, iIN, iRg3, iRng3, rGetL, tAugS, tNo, rCopyN, rRep,
  List.map_cons, List.map_nil, List.length_cons, List.length_nil, List.cons_append, List.nil_append, List.replicate, Nat.reduceAdd, Nat.reduceSub, Nat.zero_add, Nat.sub_self,
  List.getElem?_cons_zero, List.getElem?_cons_succ, List.set_cons_zero, List.set_cons_succ, wipe, Option.some.injEq, exists_eq_left', exists_eq_left, V.bl.injEq, V.int.injEq, ref_inj, ty_inj, if_true, if_false, Bool.false_eq_true, Bool.true_eq_false, exists_const, exists_and_left, true_and, and_true, List.cons.injEq,
  isB_int, isB_bool, isB_tuple, isB_list, isT_at, iSq, iRg1, iRg2, iZ2, iZ3, iEn])
local macro_rules | `(tactic| walk_at "st") => `(tactic| ((try dsimp only); rw [tSeq_def]))
local macro_rules | `(tactic| walk_at "lp") => `(tactic| first | rw [tFor_def] | rw [tLc_def] | rw [tWhile_def])
local macro_rules | `(tactic| walk_at "ex") => `(tactic| simp only [List.cons.injEq, and_true, true_and, and_assoc, exists_and_left, exists_eq_left', exists_eq_left, exists_eq_right, exists_const, V.int.injEq, V.bl.injEq, ref_inj, Bool.not_true, Bool.not_false, Bool.false_eq_true, if_true, if_false, Bool.true_eq_false])
section
variable {P : Program} {w : World} {K : PySem.W.Frag} {mg : Str → Option Value} {base : Heap} {a : Ad}
/-- A COMPREHENSION THAT MAY CHANGE THINGS: Pv what stands before turn i -/
theorem lcP {n : Nat} {Sq : Hp → Prop} {yl : Nat → Hp → V → Hp → Prop} {B : (Hp → Prop) → V → Hp → Prop} {Q : Hp → Prop} {Dl : Addr} {H : Hp} (Pv : Nat → Hp → Prop) (h0 : Pv 0 (upd H Dl (.lst []))) (hq : ∀ i H', i ≤ n → Pv i H' → Sq H')
    (hs : ∀ (i : Nat) (v : V) (H1 H2 : Hp) (Nx : Hp → Prop), i < n → Pv i H1 → yl i H1 v H2 → (∀ H', Pv (i + 1) H' → Nx H') → B Nx v H2) (hd : ∀ H', Pv n H' → Q H') :
    ∃ W : Nat → Nat → Hp → Prop, (∃ m, W 0 m (upd H Dl (.lst []))) ∧ ∀ i m H, W i m H →
      ((ItG n Sq yl).stop i H ∧ Q H) ∨ ((ItG n Sq yl).go i H ∧ ∃ Nx : Hp → Prop, (∀ H', Nx H' → ∃ m', m' < m ∧ W (i + 1) m' H') ∧ ∀ x H', (ItG n Sq yl).yld i H x H' → B Nx x H') := by
  refine ⟨fun i m H => m = n - i ∧ i ≤ n ∧ Pv i H, ⟨n, rfl, Nat.zero_le _, h0⟩, ?_⟩
  rintro i m H ⟨rfl, hi, p⟩
  have q := hq i H hi p
  by_cases hlt : i < n
  · exact .inr ⟨⟨hlt, q⟩, Pv (i + 1), fun H' p' => ⟨n - (i + 1), by omega, rfl, hlt, p'⟩, fun v H' y => hs i v H H' _ hlt p y fun _ h => h⟩
  · have e : i = n := by omega
    subst e
    exact .inl ⟨⟨rfl, q⟩, hd H p⟩
theorem DrawAt.up {K : PySem.W.Frag} {sc0 d D : Addr} {H0 H' : Hp} {o : HO} (hd0 : DrawAt K sc0 H0 d) (x : SameX d H0 H') (hd : DrawAt K sc0 H' d) (hD : H0 D = none) : DrawAt K sc0 (upd H' D o) d := by
  obtain ⟨i0, h0, s0⟩ := hd0
  obtain ⟨i, h1, _⟩ := hd
  refine ⟨i, ?_, script_x h0 s0 fun b u hb hne => ?_⟩
  · rw [upd_ne (ne_of_none h0 hD)]
    exact h1
  · rw [upd_ne (ne_of_none hb hD)]
    exact x b u hb hne
theorem DrawAt.back {K : PySem.W.Frag} {sc0 d D : Addr} {H0 H' : Hp} (x : SameX d H0 H') (hd : DrawAt K sc0 H' d) (hD : H' D = none) : D ≠ d ∧ H0 D = none := by
  have ne : D ≠ d := fun e => by
    obtain ⟨i, h1, _⟩ := hd
    rw [e, h1] at hD
    exact nomatch hD
  refine ⟨ne, ?_⟩
  cases hz : H0 D with
  | none => rfl
  | some o =>
    rw [x _ _ hz ne] at hD
    exact nomatch hD
theorem sameX_fresh {d D : Addr} {H0 H' : Hp} {o : HO} (x : SameX d H0 H') (hD : H0 D = none) : SameX d H0 (upd H' D o) := fun b u hb hne => by
  rw [upd_ne (ne_of_none hb hD)]
  exact x b u hb hne
theorem rows_x {K : PySem.W.Frag} {sc0 d : Addr} {H H' : Hp} {ts : List Addr} {R : List (List Int)} (x : SameX d H H') (hd : DrawAt K sc0 H d) (p : Paired (RowAt H) ts R) : Paired (RowAt H') ts R := Paired.imp2 p fun _ _ h => x _ _ h (hd.ne h fun _ _ => nofun)
/-! ### the law's rows -/
/-- rows of the law: 1 to most rows, of one width from 1 to 4, from 0 to 6 -/
def spLr (K : PySem.W.Frag) (a : Ad) : Sp := fun vs H Q _ => ∃ (d sc0 : Addr) (most : Nat), vs = [.ref d, .int (most : Nat)] ∧ DrawAt K sc0 H d ∧ 1 ≤ most ∧ most ≤ 10 ∧
  ∀ l H' (ts : List Addr) R w, Shp R w → H' l = some (.lst (ts.map V.ref)) → Paired (RowAt H') ts R → l ≠ d → SameX d H H' → DrawAt K sc0 H' d → Q (.ref l) H'
abbrev N__law_rows : List Str := ["_law_draw", "_law_most", "_law_many", "_law_width", "_law_top", "_law_found", "_law_place", "_law_row", "_law_column"]
theorem ok_law_rows (D : Def K mg "_law_rows" 75) (T : Txt K mg a) (M : TabM P w K mg base a.CT) (c__law_take : CalX P w K mg base 4 "_law_take" (spLt K)) : CalX P w K mg base 5 "_law_rows" (spLr K a) := by
  refine calx (N := N__law_rows) (ps := ["_law_draw", "_law_most"]) D (by decide +kernel) (fun vs H Q E h => ?_) (fun _ _ _ _ _ _ us hl => match us, hl with | [_, _], _ => rfl) (fun f cdv A outer s H vs Q E hr nd tk pn h => ⟨_, (pss_cons (ps_asg (pe_tup (pa_cons (pe_op op_add pe_int (pe_cx c__law_take hr (by decide) tk (pa_cons (pv 0) (pa_cons (pv 1) pa_nil)))) (pa_cons (pe_op op_add pe_int (pe_cx c__law_take hr (by decide) tk (pa_cons (pv 0) (pa_cons pe_int pa_nil)))) (pa_cons (pe_op op_add pe_int (pe_cx c__law_take hr (by decide) tk (pa_cons (pv 0) (pa_cons pe_int pa_nil)))) pa_nil)))) (pg_tupK (K := K) (n := 3) rfl rfl (pgs_cons (pg_name (i := 2) nd rfl (Or.inl rfl)) (pgs_cons (pg_name (i := 3) nd rfl (Or.inl rfl)) (pgs_cons (pg_name (i := 4) nd rfl (Or.inr rfl)) pgs_nil)))))
      (pss_cons (ps_asg (pe_tup (pa_cons (pe_ifExp (PW.pt (pw_and (pt_cmpR op_eq (pv 4) pe_int (nomark _)) (pw_and1 (pt_cmpR op_eq (pe_cx c__law_take hr (by decide) tk (pa_cons (pv 0) (pa_cons pe_int pa_nil))) pe_int (nomark _))))) pe_int (pv 4)) (pa_cons (pe_lst pa_nil) pa_nil))) (pg_tupK (K := K) (n := 2) rfl rfl (pgs_cons (pg_name (i := 4) nd rfl (Or.inr rfl)) (pgs_cons (pg_name (i := 5) nd rfl (Or.inl rfl)) pgs_nil))))
      (pss_cons (ps_for pn rfl (pi_rg1 (by rfl) T.range (pa_cons (pv 2) pa_nil)) (pg_name (i := 6) nd rfl (Or.inl rfl))
      (pss_cons (ps_set (i := 7) nd rfl (Or.inl rfl) (pe_callTy call_tuple_of (by rfl) T.tuple bi_tuple (pa_cons (pe_lc (own := [("_law_column", 8)]) rfl nd (pi_rg1 (by rfl) T.range (pa_cons (pv 3) pa_nil)) (blkOk_by (own := [("_law_column", 8)]) (N := N__law_rows) (sc := defScope (top 75)) (by decide +kernel)) (fun _ _ _ _ _ => (pg_name (i := 8) nd rfl (Or.inl rfl))) (fun _ _ _ _ _ => pts_nil) (fun _ _ _ _ _ => (pe_cx c__law_take hr (by decide) tk0 (pa_cons (pv 0) (pa_cons (pe_op op_add (pv 4) pe_int) pa_nil))))) pa_nil)))
      (pss_one (ps_expr (pe_bm PySem.F.plainAttrs_list PySem.F.slot_list_append PySem.F.type_list_append mt_append (pv 5) (pa_cons (pe_ifExp (PW.pt (pw_and (pt_cmpR (opK_neD (K := K) rfl hr.units) (pv 5) (pe_lst pa_nil) (nomark _)) (pw_and1 (pt_cmpR op_eq (pe_cx c__law_take hr (by decide) tk (pa_cons (pv 0) (pa_cons pe_int pa_nil))) pe_int (nomark _))))) (pe_ix (ixK (K := K) rfl) (pv 5) (pe_cx c__law_take hr (by decide) tk (pa_cons (pv 0) (pa_cons (pe_callB (call_lenK (K := K) rfl M hr (by decide)) (by rfl) T.len bi_len (pa_cons (pv 5) pa_nil)) pa_nil))) (fun _ _ => rfl)) (pv 7)) pa_nil))))))
      (pss_one (ps_ret (pv 5)))))), ?_⟩)
  · obtain ⟨_, _, _, rfl, _⟩ := h
    rfl
  · obtain ⟨d, sc0, most, rfl, hd, m1, m10, q⟩ := h
    clear tk pn nd hr
    walk_at "st"
    walk_at "r0"
    simp only [spLt]
    refine ⟨d, sc0, _, rfl, hd, by omega, fun r1 H1 x1 d1 a1 b1 => ⟨_, rfl, d, sc0, _, rfl, d1, by decide, fun r2 H2 x2 d2 a2 b2 => ⟨_, rfl, d, sc0, _, rfl, d2, by decide, fun r3 H3 x3 d3 a3 b3 => ⟨_, rfl, by decide, fun p hp => ?_⟩⟩⟩⟩
    refine un3s upd_same ?_
    have e4 := same_new (o := .tup [.int (1 + r1), .int (1 + r2), .int (1 + r3)]) (Same.refl H3) hp
    have d4 := d3.same e4
    generalize upd H3 p (.tup [.int (1 + r1), .int (1 + r2), .int (1 + r3)]) = H4 at e4 d4 ⊢
    have x4 := ((x1.trans x2).trans x3).same e4
    walk_at "st"
    generalize hB : tSeq (tFor (iRg1 (tCons (tVar 2) tNil)) (gName 6) _) _ = B
    have rest : ∀ (H5 : Hp) (tp : Int) (F : Addr), SameX d H H5 → DrawAt K sc0 H5 d → H5 F = some (.lst []) → F ≠ d → H F = none → 1 ≤ tp → tp ≤ 6 → B { nx := fun x H' => Q V.non H', rt := Q } [some (.ref d), some (.int (most : Nat)), some (.int (1 + r1)), some (.int (1 + r2)), some (.int tp), some (.ref F), none, none, none] H5 := by
      subst hB
      intro H5 tp F x5 d5 hF5 hne hFn t1 t6
      walk_at "st"
      walk_at "lp"
      walk_at "r0"
      refine ⟨⟨by omega, by omega⟩, ?_⟩
      refine forB (fun j σ H' => SameX d H H' ∧ DrawAt K sc0 H' d ∧ ∃ (ts : List Addr) (R : List (List Int)) (v6 v7 v8 : Option V), σ = [some (.ref d), some (.int (most : Nat)), some (.int (1 + r1)), some (.int (1 + r2)), some (.int tp), some (.ref F), v6, v7, v8] ∧ H' F = some (.lst (ts.map V.ref)) ∧ Paired (RowAt H') ts R ∧ R.length = j ∧ ∀ r ∈ R, r.length = (1 + r2).toNat ∧ ∀ z ∈ r, 0 ≤ z ∧ z ≤ 6)
        ⟨x5, d5, [], [], none, none, none, rfl, hF5, .nil, rfl, fun r hr => nomatch hr⟩ (fun j σ H' _ _ => trivial) ?_ ?_
      · rintro j v σ H6 H7 Nx hj ⟨x6, d6, ts, R, v6, v7, v8, rfl, hF6, hp6, hl, hR⟩ y nx
        simp only [yV] at y
        obtain ⟨rfl, rfl⟩ := y
        walk_at "st"
        walk_at "r0"
        walk_at "lp"
        walk_at "r0"
        refine ⟨⟨by omega, by omega⟩, fun D1 hD1 => ?_⟩
        obtain ⟨nD, bD⟩ := DrawAt.back x6 d6 hD1
        have e7 := same_new (o := .lst []) (Same.refl H7) hD1
        refine lcP (fun i H' => SameX d H7 H' ∧ DrawAt K sc0 H' d ∧ ∃ vals : List Int, H' D1 = some (.lst (vals.map V.int)) ∧ vals.length = i ∧ ∀ z ∈ vals, 0 ≤ z ∧ z ≤ 6) ⟨(SameX.refl d H7).same e7, d6.same e7, [], upd_same, rfl, fun z hz => nomatch hz⟩ (fun _ _ _ _ => trivial) ?_ ?_
        · rintro i v H8 H9 Nx2 hi ⟨x8, d8, vals, hv8, hl8, hz8⟩ y nx2
          simp only [yV] at y
          obtain ⟨rfl, rfl⟩ := y
          refine ⟨d, sc0, _, rfl, d8, by omega, fun r H10 x10 d10 r0 r1 => ?_⟩
          have hv10 := x10 _ _ hv8 nD
          refine ⟨_, hv10, by rw [List.length_map]; exact small1000 (by omega), nx2 _ ?_⟩
          have x11 := (x8.trans x10)
          refine ⟨sameX_fresh x11 hD1, DrawAt.up d6 x11 d10 hD1, vals ++ [r], ?_, by rw [List.length_append, hl8]; rfl, fun z hz => ?_⟩
          · rw [upd_same, List.map_append]; rfl
          · rcases List.mem_append.mp hz with hz | hz
            · exact hz8 z hz
            · rw [List.mem_singleton.mp hz]
              omega
        · rintro H8 ⟨x8, d8, vals, hv8, hl8, hz8⟩
          have hF8 := x8 _ _ hF6 hne
          have hp8 := rows_x x8 d6 hp6
          refine ⟨_, .inl ⟨SqL.of hv8, fun l hln => ?_⟩⟩
          have hnl : H l = none := (DrawAt.back (x6.trans x8) d8 hln).2
          have e9 := same_new (o := .tup (vals.map V.int)) (Same.refl H8) hln
          have hl9 : upd H8 l (.tup (vals.map V.int)) l = some (.tup (vals.map V.int)) := upd_same
          generalize upd H8 l (.tup (vals.map V.int)) = H9 at e9 hl9 ⊢
          refine ⟨Or.inl ⟨rfl, _, Or.inl (Or.inl (e9 _ _ hF8))⟩, Nat.zero_le _, fun p2 hp2 => ?_⟩
          have e10 := e9.trans (same_new (o := .lst []) (Same.refl H9) hp2)
          have hl10 := same_new (o := .lst []) (Same.refl H9) hp2 _ _ hl9
          have hnil : upd H9 p2 (.lst []) p2 = some (.lst ([] : List V)) := upd_same
          generalize upd H9 p2 (.lst []) = H10 at e10 hl10 hnil ⊢
          have x10 := (x6.trans x8).same e10
          have d10 := d8.same e10
          have hF10 := e10 _ _ hF8
          have hp10 := Paired.imp2 hp8 fun _ _ h => e10 _ _ h
          clear hF8 hp8 hp6 hF6
          have fin : ∀ (H' : Hp) (t : Addr) (row : List Int), SameX d H10 H' → DrawAt K sc0 H' d → RowAt H' t row → (row.length = (1 + r2).toNat ∧ ∀ z ∈ row, 0 ≤ z ∧ z ≤ 6) →
              ∃ x, H' F = some (.lst x) ∧ x.length < sizeLine ∧ Nx [some (.ref d), some (.int (most : Nat)), some (.int (1 + r1)), some (.int (1 + r2)), some (.int tp), some (.ref F), some (.int (j : Nat)), some (.ref l), v8] (upd H' F (.lst (x ++ [.ref t]))) := by
            intro H' t row x' d' ht hrow
            have hF' := x' _ _ hF10 hne
            have hp' := rows_x x' d10 hp10
            refine ⟨_, hF', by rw [List.length_map, hp'.length, hl]; exact small1000 (by omega), nx _ _ ⟨sameX_fresh (x10.trans x') hFn, DrawAt.up hd (x10.trans x') d' hFn, ts ++ [t], R ++ [row], some (.int (j : Nat)), some (.ref l), v8, rfl, ?_, ?_, by rw [List.length_append, hl]; rfl, fun r hr => ?_⟩⟩
            · rw [upd_same, List.map_append]; rfl
            · have nF : ∀ b r, RowAt H' b r → RowAt (upd H' F (.lst (ts.map V.ref ++ [.ref t]))) b r := fun b r h => by
                have ne : b ≠ F := fun e => by
                  subst e
                  exact nomatch (show some (HO.lst _) = some (HO.tup _) from hF'.symm.trans h)
                exact (upd_ne ne).trans h
              exact paired_snoc (Paired.imp2 hp' nF) (nF _ _ ht)
            · rcases List.mem_append.mp hr with hr | hr
              · exact hR r hr
              · rw [List.mem_singleton.mp hr]
                exact hrow
          have mine : ∀ H', SameX d H10 H' → RowAt H' l vals := fun H' x' => x' _ _ hl10 (d10.ne hl10 fun _ _ => nofun)
          refine ne_nilL hF10 (dp_rows hp10) (sh_rows _) hnil ⟨_, rfl, ?_⟩
          cases hem : (ts.map V.ref).isEmpty with
          | true =>
            rw [if_neg (by decide)]
            exact fin H10 l vals (SameX.refl d H10) d10 hl10 ⟨hl8, hz8⟩
          | false =>
            rw [if_pos (by decide)]
            have hpos : 0 < ts.length := by
              cases ts with
              | nil => exact nomatch hem
              | cons _ _ => simp
            refine ⟨d, sc0, 5, rfl, d10, by decide, fun r5 H11 x11 d11 a5 b5 => ?_⟩
            refine ⟨rfl, _, rfl, ?_⟩
            split
            · have hF11 := x11 _ _ hF10 hne
              refine len_l hF11 ⟨d, sc0, _, rfl, d11, by rw [List.length_map]; omega, fun r6 H12 x12 d12 a6 b6 => ?_⟩
              rw [List.length_map] at b6
              have x102 := x11.trans x12
              have hp12 := rows_x x102 d10 hp10
              obtain ⟨t, ht1, ht2⟩ := rowAtI hp12 a6 (by rw [← hp12.length]; exact b6)
              exact ix_l (x102 _ _ hF10 hne) ht1 (fin H12 t _ x102 d12 ht2 (hR _ (getD_mem (by rw [← hp12.length]; omega))))
            · exact fin H11 l vals x11 d11 (mine _ x11) ⟨hl8, hz8⟩
      · rintro σ H6 ⟨x6, d6, ts, R, v6, v7, v8, rfl, hF6, hp6, hl, hR⟩
        refine ⟨_, rfl, q F H6 ts R (1 + r2).toNat ⟨by omega, by omega, by omega, by omega, hR⟩ hF6 hp6 hne x6 d6⟩
    have go : ∀ (Hx : Hp) (tp : Int), SameX d H Hx → DrawAt K sc0 Hx d → 1 ≤ tp → tp ≤ 6 → 0 ≤ sizeLine ∧ ∀ p, Hx p = none → 2 ≤ sizeLine ∧ ∀ p_1, upd Hx p (.lst []) p_1 = none →
        ∃ x, SqT K (upd (upd Hx p (.lst [])) p_1 (.tup [.int tp, .ref p])) p_1 x ∧ x.length = 2 ∧ ∃ v r, x = v :: r ∧ ∃ v_1 r_1, r = v_1 :: r_1 ∧ r_1 = [] ∧
          B { nx := fun x H' => Q V.non H', rt := Q } [some (.ref d), some (.int (most : Nat)), some (.int (1 + r1)), some (.int (1 + r2)), some v, some v_1, none, none, none] (upd (upd Hx p (.lst [])) p_1 (.tup [.int tp, .ref p])) := by
      intro Hx tp xx dx t1 t2
      refine ⟨Nat.zero_le _, fun F hF => ⟨by decide, fun p9 hp9 => ?_⟩⟩
      have f1 := same_new (o := .lst []) (Same.refl Hx) hF
      have hF1 : upd Hx F (.lst []) F = some (.lst ([] : List V)) := upd_same
      have f2 := f1.trans (same_new (o := .tup [.int tp, .ref F]) (Same.refl (upd Hx F (.lst []))) hp9)
      have hF2 := same_new (o := .tup [.int tp, .ref F]) (Same.refl (upd Hx F (.lst []))) hp9 _ _ hF1
      have hne : F ≠ d := fun e => by
        obtain ⟨c, h1, _⟩ := dx
        rw [e, h1] at hF
        exact nomatch hF
      refine un2s upd_same (rest _ tp F (xx.same f2) (dx.same f2) hF2 hne ?_ t1 t2)
      cases hz : H F with
      | none => rfl
      | some o =>
        rw [xx _ _ hz hne] at hF
        exact nomatch hF
    walk_at "r0"
    refine ⟨rfl, _, rfl, ?_⟩
    rw [int_eq]
    by_cases h3 : 1 + r3 = 3
    · rw [if_pos (by simp [h3])]
      simp only [spLt]
      refine ⟨d, sc0, 2, rfl, d4, by decide, fun r4 H5 x5 d5 a5 b5 => ⟨rfl, _, rfl, ?_⟩⟩
      have x45 := x4.trans x5
      split
      · exact go H5 6 x45 d5 (by decide) (by decide)
      · exact go H5 _ x45 d5 (by omega) (by omega)
    · rw [if_neg (by simp [h3])]
      exact go H4 _ x4 d4 (by omega) (by omega)
end
end G


set_option Elab.async false
set_option linter.all false
set_option maxRecDepth 100000
set_option maxHeartbeats 4000000
/-! A try with several except clauses, some of them «as n», that together let nothing out. -/
namespace G
open PySem PySem.Spec PyProof.Rows L2
/-- an exception on the ground of the frame of X: sI is the state without it -/
structure Lit (X : Cx) (pins : List (Addr × Obj)) (σ : L2.St) (H : Hp) (a : Addr) (cls : Value) (d : Option Addr) (B : Heap) (sI s : Shared) : Prop where
  inv0 : Inv X pins σ H sI
  keep : ∀ b o, sI.heap.get? b = some o → b ∉ frs X.stack → B.get? b = some o
  slots : sI.heap.UpToSlots s.heap
  fly : HandSPX.FlyingZ B (X.env :: X.outer) a (Zc cls d) s.heap
  free : H a = none
  nloc : a ≠ X.env.locals
  nfs : a ∉ X.fs
  osq : s.os = sI.os
  bare : AllBare s.gens
section
variable {X : Cx} {pins : List (Addr × Obj)} {σ : L2.St} {H : Hp} {a : Addr} {cls : Value} {d : Option Addr} {B : Heap} {sI s : Shared}
theorem Lit.inv (L : Lit X pins σ H a cls d B sI s) : Inv X pins σ H s := L.inv0.landed L.keep L.fly.1 L.slots L.osq L.bare
theorem Lit.at (L : Lit X pins σ H a cls d B sI s) : ∃ oe vs, s.heap.get? a = some oe ∧ Zc cls d oe ∧ oe.data = .fields vs ∧ Inv (X.suite a ((a, oe) :: (X.pn ++ pins))) [] σ H s := by
  obtain ⟨oe, vs, g, z, f⟩ := L.fly.there
  exact ⟨oe, vs, g, z, f, L.inv.suite g f L.free L.nloc L.nfs⟩
theorem Lit.on (L : Lit X pins σ H a cls d B sI s) {h' : Heap} (f : HandSPX.FlyingZ B (X.env :: X.outer) a (Zc cls d) h') (u : s.heap.UpToSlots h') : Lit X pins σ H a cls d B sI { s with heap := h' } :=
  ⟨L.inv0, L.keep, L.slots.trans u, f, L.free, L.nloc, L.nfs, L.osq, L.bare⟩
end
/-- the ends of a suite whose name goes behind it -/
def endsAs (i : Nat) (D : Ends) : Ends := { nx := fun σ H => D.nx (σ.set i none) H, rt := D.rt, bk := fun σ H => D.bk (σ.set i none) H, ct := fun σ H => D.ct (σ.set i none) H }
/-- clauses, and what they wish of an exception -/
inductive Clauses (X : Cx) : List ExceptHandler → (Value → Option Addr → TS) → Prop
  | nil : Clauses X [] (fun _ _ _ _ _ => False)
  | plain {x : Str} {c : Value} {b₀ : Stmt} {bs : List Stmt} {p q : Pos} {r : List ExceptHandler} {t : Value → Option Addr → TS} {ts : Addr → Value → Option Addr → TS} (hn : L2.Names X x c)
      (hb : ∀ (a : Addr) (oe : Obj) (cls : Value) (d : Option Addr) (pn : List (Addr × Obj)), Zc cls d oe → (∃ vs, oe.data = .fields vs) → PSs (X.suite a ((a, oe) :: pn)) (b₀ :: bs) (ts a cls d)) (hr : Clauses X r t) :
      Clauses X (.ExceptHandler (some (.Name x p)) none (b₀ :: bs) q :: r) (fun cls d D σ H => ∃ k, PySem.W.exmOne X.K cls c = some k ∧ (k = true → ∀ a, H a = none → ts a cls d D σ H) ∧ (k = false → t cls d D σ H))
  | named {x n : Str} {i : Nat} {c : Value} {b₀ : Stmt} {bs : List Stmt} {p q : Pos} {r : List ExceptHandler} {t : Value → Option Addr → TS} {ts : Addr → Value → Option Addr → TS} (hn : L2.Names X x c) (nd : X.N.Nodup) (hi : X.N[i]? = some n) (hl : X.env.kindOf n = some .local)
      (hb : ∀ (a : Addr) (oe : Obj) (cls : Value) (d : Option Addr) (pn : List (Addr × Obj)), Zc cls d oe → (∃ vs, oe.data = .fields vs) → PSs (X.suite a ((a, oe) :: pn)) (b₀ :: bs) (ts a cls d)) (hr : Clauses X r t) :
      Clauses X (.ExceptHandler (some (.Name x p)) (some n) (b₀ :: bs) q :: r) (fun cls d D σ H => ∃ k, PySem.W.exmOne X.K cls c = some k ∧ (k = true → ∀ a, H a = none → ts a cls d (endsAs i D) (σ.set i (some (.ref a))) H) ∧ (k = false → t cls d D σ H))
section
variable {X : Cx} {pins : List (Addr × Obj)} {σ : L2.St} {H : Hp} {a : Addr} {cls : Value} {d : Option Addr} {B : Heap} {sI s : Shared}
theorem lit_test (L : Lit X pins σ H a cls d B sI s) {x : Str} {c : Value} {p : Pos} {k : Bool} {Q : Bool → Shared → Prop} {E₁ E₂ : Value → Shared → Prop} (hn : L2.Names X x c) (hk : PySem.W.exmOne X.K cls c = some k) (q : Q k s) :
    wpAny (model X.prog X.w) (X.A.mark (some (.ref a))) (eval (.Name x p) X.env) (fun v s₁ => wpAny (model X.prog X.w) (X.A.mark (some (.ref a))) (excMatches (.ref a) v) Q E₁ s₁) E₂ s := by
  obtain ⟨oe, vs, ho, hz, hd, S⟩ := L.at
  have look : PySem.W.Looks (model X.prog X.w) s.heap (typeOf (.ref a)) cls := fun _ _ _ _ kk qq => wpAny_typeOf_ref (kk _ _ ho) (by rw [hz.1]; exact qq)
  have fin := PySem.W.exm_one (M := model X.prog X.w) L.inv.kIn look hk
  obtain ⟨gl, db, m | ⟨m, bv, nn⟩⟩ := hn
  · exact ld_glob (X := X.suite a ((a, oe) :: (X.pn ++ pins))) S gl m (fin.here q) db
  · exact ld_blt (X := X.suite a ((a, oe) :: (X.pn ++ pins))) S gl m bv (fin.here q) nn db
theorem lit_run {hds : List ExceptHandler} {t : Value → Option Addr → TS} {D : Ends} (C : Clauses X hds t) (L : Lit X pins σ H a cls d B sI s) (h : t cls d D σ H) :
    wpAny (model X.prog X.w) X.A (handleBy (.ref a) X.env hds) (SP X pins D) X.xe s := by
  have ok := L.inv0.ok
  induction C with
  | nil => exact h.elim
  | @plain x c b₀ bs p q r t ts hn hb hr ih =>
    obtain ⟨k, hk, yes, no⟩ := h
    refine wpAny_handleBy_cons (codeAny_handlers_test (lit_test L hn hk ?_)) nofun
    cases k with
    | false => exact ih (no rfl)
    | true =>
      refine codeAny_handlers_suite (HandSPX.lands_againZ L.fly fun h' f u => ?_)
      have L' := L.on f u
      obtain ⟨oe, vs, ho, hz, hd, S⟩ := L'.at
      refine wpAny_mono ((hb a oe cls d (X.pn ++ pins) hz ⟨_, hd⟩).run [] _ _ H _ S (yes rfl a L.free)) (fun w s2 r2 => ?_) (fun _ _ z => z.elim)
      cases w with
      | ret u => obtain ⟨v, σ2, H2, S2, rv, q2⟩ := r2; exact ⟨v, σ2, H2, S2.unsuite ok, rv, q2⟩
      | next => obtain ⟨σ2, H2, S2, q2⟩ := r2; exact ⟨σ2, H2, S2.unsuite ok, q2⟩
      | brk => obtain ⟨σ2, H2, S2, q2⟩ := r2; exact ⟨σ2, H2, S2.unsuite ok, q2⟩
      | cont => obtain ⟨σ2, H2, S2, q2⟩ := r2; exact ⟨σ2, H2, S2.unsuite ok, q2⟩
  | @named x n i c b₀ bs p q r t ts hn nd hi hl hb hr ih =>
    obtain ⟨k, hk, yes, no⟩ := h
    refine wpAny_handleBy_cons (codeAny_handlers_test (lit_test L hn hk ?_)) nofun
    cases k with
    | false => exact ih (no rfl)
    | true =>
      refine codeAny_handlers_suite_as (HandSPX.lands_againZ L.fly fun h' f u => ?_)
      have L' := L.on f u
      obtain ⟨oe, vs, ho, hz, hd, S⟩ := L'.at
      refine store_ok (X := X.suite a ((a, oe) :: (X.pn ++ pins))) (v := .ref a) S nd hi (.inl hl) rfl (fun s1 S1 => ?_) (.inr hl)
      refine wpAny_mono ((hb a oe cls d (X.pn ++ pins) hz ⟨_, hd⟩).run [] s1 _ H _ S1 (yes rfl a L.free)) (fun w s2 r2 => ?_) (fun _ _ z => z.elim)
      have go : ∀ {σ2 : L2.St} {H2 : Hp} {R : Shared → Prop}, Inv (X.suite a ((a, oe) :: (X.pn ++ pins))) [] σ2 H2 s2 → (∀ s3, Inv X pins (σ2.set i none) H2 s3 → R s3) →
          wpAny (model X.prog X.w) X.A (do bindName X.env n .none; unbindBehindTheSuite X.env n q) (fun _ s3 => R s3) X.xe s2 := fun S2 g => gone_ok (S2.unsuite ok) nd hi hl g
      cases w with
      | ret u => obtain ⟨v, σ2, H2, S2, rv, q2⟩ := r2; exact go S2 fun _ J => ⟨v, _, H2, J, rv, q2⟩
      | next => obtain ⟨σ2, H2, S2, q2⟩ := r2; exact go S2 fun _ J => ⟨_, H2, J, q2⟩
      | brk => obtain ⟨σ2, H2, S2, q2⟩ := r2; exact go S2 fun _ J => ⟨_, H2, J, q2⟩
      | cont => obtain ⟨σ2, H2, S2, q2⟩ := r2; exact go S2 fun _ J => ⟨_, H2, J, q2⟩
/-- THE RULE -/
theorem ps_tryC {body : List Stmt} {h₀ : ExceptHandler} {hds : List ExceptHandler} {t : Value → Option Addr → TS} {pos : Pos} {tb : WX → TS} (st : X.stack = X.env :: X.outer) (fr : X.env.frame = some X.env.locals)
    (hb : ∀ (W : WX) (pn : List (Addr × Obj)) (xe : Value → Shared → Prop), Takes (X.tr pn xe) W → PSs (X.tr pn xe) body (tb W)) (C : Clauses X (h₀ :: hds) t) :
    PS X (.Try body (h₀ :: hds) [] [] pos) (fun D σ H => tb (fun cls d => t cls d D) D σ H) := by
  refine ⟨fun pins s σ H D I h => ?_⟩
  have ok := I.ok
  have frq : X.A.frames = some (X.env :: X.outer) := by rw [ok.frames, st]
  refine wpAny_Try_except (wpAny_mono ((hb (fun cls d => t cls d D) (X.pn ++ pins) (fun e s₁ => wpAny (model X.prog X.w) X.A (noteFrame e X.env) (fun _ s₂ => wpAny (model X.prog X.w) X.A (setFlight e none)
    (fun _ s₃ => wpAny (model X.prog X.w) X.A (handleBy e X.env (h₀ :: hds)) (SP X pins D) X.xe s₃) X.xe s₂) X.xe s₁) fun u s' xx => ?_).run [] s σ H D (I.toTry _) h) (fun f s1 r => ?_) (fun _ _ z => z))
  · obtain ⟨b, G0, sI, pn', σ2, H2, cls, d, rfl, J, nb, up, sky, na, os, ag, w⟩ := xx
    refine Sky.land Zc.steady frq fr (by rw [← st]; exact sky) fun h3 fl up3 => ?_
    obtain ⟨oe, vs, g3, z3, f3⟩ := fl.there
    have no : b ∉ frs (X.env :: X.outer) := fun hm => by
      obtain ⟨_, o2, g2, nd⟩ := fl.2.2.1.mem hm
      have e2 : (some oe : Option Obj) = some o2 := g3.symm.trans g2
      cases e2
      exact nd _ f3
    refine lit_run C ⟨J.ofTry ok, nb, up.trans up3, fl, na, fun e => no ?_, fun m => no ?_, os, ag⟩ w
    · exact List.mem_filterMap.mpr ⟨X.env, List.mem_cons_self, by rw [fr, e]⟩
    · obtain ⟨v, hv, e⟩ := List.mem_filterMap.mp m
      exact List.mem_filterMap.mpr ⟨v, List.mem_cons_of_mem _ hv, e⟩
  · cases f with
    | ret u => obtain ⟨v, σ2, H2, J, rv, q⟩ := r; exact ⟨v, σ2, H2, J.ofTry ok, rv, q⟩
    | next => obtain ⟨σ2, H2, J, q⟩ := r; exact wpAny_execs_nil ⟨σ2, H2, J.ofTry ok, q⟩
    | brk => obtain ⟨σ2, H2, J, q⟩ := r; exact ⟨σ2, H2, J.ofTry ok, q⟩
    | cont => obtain ⟨σ2, H2, J, q⟩ := r; exact ⟨σ2, H2, J.ofTry ok, q⟩
end
end G


set_option Elab.async false
set_option linter.all false
set_option maxRecDepth 100000
set_option maxHeartbeats 4000000
/-! Lambdas with captured names that are handed on: made, kept in lists, called by another def. -/
namespace G
open PySem PySem.Spec PyProof.Rows L2 LamX NdefX
/-- a lambda's words as a function object at f (F: all but its body e) -/
def LamO (f : Addr) (F : NF) (e : Expr) : HO := .ext fun h => ∃ (dd : Option Addr) (sl : Array (Option Value)) (pm ct : Value), h.get? f = some (⟨.type "function", dd, .func (PySem.W.kla_fn "<lambda>" F.qual F.params e F.scope F.cl pm (.ref F.c) ct), sl⟩ : Obj)
theorem lamO_tbl {f : Addr} {F : NF} {e : Expr} (ps : Array Value) : LamO f F e ≠ .tbl ps := fun z => by
  unfold LamO at z
  cases z
theorem lamO_at {P : Program} {w : World} {H : Hp} {h : Heap} {f : Addr} {F : NF} {e : Expr} (hk : HOk P w H h) (g : H f = some (LamO f F e)) :
    ∃ (dd : Option Addr) (sl : Array (Option Value)) (pm ct : Value), h.get? f = some (⟨.type "function", dd, .func (PySem.W.kla_fn "<lambda>" F.qual F.params e F.scope F.cl pm (.ref F.c) ct), sl⟩ : Obj) := (hk f _ g).1
section
variable {X : Cx} {pins : List (Addr × Obj)} {σ : L2.St} {H : Hp} {s : Shared}
theorem lam_known {F : NF} {e : Expr} {o : Obj} {tk : Nat} {pm ct : Value} (I : Inv X pins σ H s) (eo : o = ⟨.type "function", none, .func (PySem.W.kla_fn "<lambda>" F.qual F.params e F.scope F.cl pm (.ref F.c) ct), #[]⟩) :
    Inv X pins σ (upd H s.heap.objs.size (LamO s.heap.objs.size F e)) { s with heap := s.heap.push o, toks := tk } := by
  have g : (s.heap.push o).get? s.heap.objs.size = some o := Heap.get?_push_size _ (by rw [eo]; rfl)
  rw [eo] at g
  exact I.laid (a := s.heap.objs.size) (fun _ _ q => Heap.get?_push_of_some _ q) (Nat.le_refl _) ⟨⟨_, _, pm, ct, by rw [eo]; exact g⟩, ⟨_, by rw [eo]; exact g⟩, fun _ _ ⟨x1, x2, x3, x4, q⟩ st => ⟨x1, x2, x3, x4, st _ q⟩⟩
/-- a lambda is made: it is tracked from now on -/
theorem lam_new {T : List (Addr × Str)} {c P : Addr} {params : Arguments} {body : Expr} {scope : Scope} {pos : Pos} {E Q : Value → Shared → Prop} (I : Inv X pins σ H s) (TB : TabB X.base X.mg c P) (hcode : X.env.code = .ref c)
    (hm : (P, X.env.qual ++ "<lambda>") ∈ T) (hu : ∀ p ∈ T, p.1 = P → p.2 = X.env.qual ++ "<lambda>") (hT : Tabs T H) (hd : defaultsOf params X.env = ([], [])) (hf : ∀ y ∈ scope.names, y.2 = .free → ∃ c, X.env.cells.lookup y.1 = some c)
    (h : ∀ (f c' : Addr) (H1 : Hp) (s' : Shared), Inv X pins σ H1 s' → ExtN H H1 → (∀ b, H1 b = none → H b = none) → Tabs T H1 → H f = none → H1 f = some (LamO f ⟨"<lambda>", X.env.qual ++ "<lambda>", params, [], scope, cloFrom X.env.cells scope.names [], c'⟩ body) →
      H1 c' = some (CodeO c' (X.env.qual ++ "<lambda>")) → Q (.ref f) s') : wpAny (model X.prog X.w) X.A (eval (.Lambda params body scope pos) X.env) Q E s := by
  obtain ⟨ps, tP, t3, tq⟩ := hT _ hm
  have hbP := TB.bm.keeps I.bk
  have gP : s.heap.get? P = some { cls := .none, data := .fields ps } := I.hok P _ tP
  refine PySem.W.kla_eval hd ?_
  -- what is left once the object is pushed
  have fin : ∀ (c' : Addr) (h' : Heap) (tk : Nat) (pm ct : Value) (H0 : Hp), Inv X pins σ H0 { s with heap := h', toks := tk } → ExtN H H0 → (∀ b, H0 b = none → H b = none) → Tabs T H0 → H0 c' = some (CodeO c' (X.env.qual ++ "<lambda>")) →
      Q (.ref h'.objs.size) { s with heap := h'.push ⟨.type "function", none, .func (PySem.W.kla_fn "<lambda>" (X.env.qual ++ "<lambda>") params body scope (cloFrom X.env.cells scope.names []) pm (.ref c') ct), #[]⟩, toks := tk } := by
    intro c' h' tk pm ct H0 I0 e0 n0 T0 hc0
    have nF : H0 h'.objs.size = none := I0.hok.fresh (Nat.le_refl _)
    have J := lam_known (F := ⟨"<lambda>", X.env.qual ++ "<lambda>", params, [], scope, cloFrom X.env.cells scope.names [], c'⟩) (e := body) (tk := tk) (pm := pm) (ct := ct) I0 rfl
    refine h h'.objs.size c' _ _ J (fun b o q n => ?_) (fun b q => n0 b (upd_none q)) (T0.ext fun b o q => (upd_ne (ne_of_none q nF)).trans q) (n0 _ nF) upd_same ?_
    · have q0 := e0 b o q n
      exact (upd_ne (ne_of_none q0 nF)).trans q0
    · exact (upd_ne (ne_of_none hc0 nF)).trans hc0
  cases hc : codeAmong pos ps.toList with
  | some cv =>
    obtain ⟨c', rfl, hco⟩ := tq pos cv hc
    exact PySem.W.kla_makeFunctionHit (closure_ok hf) I.ok.glob (I.mod.glob.keeps I.bk) hcode (TB.code.keeps I.bk) gP t3 hc hbP fun ct h' tk kp _ => fin c' h' tk _ ct H (I.kept kp) (ExtN.refl H) (fun _ q => q) hT hco
  | none =>
    refine PySem.W.kla_makeFunction (closure_ok hf) I.ok.glob (I.mod.glob.keeps I.bk) hcode (TB.code.keeps I.bk) gP t3 hc TB.gP hbP fun c' ct h' tk hx ge lt rec tb => ?_
    obtain ⟨c2, oc, vs, t, e2, hoc, hdc, hvc⟩ := rec
    obtain rfl : c' = c2 := by cases e2; rfl
    have nC : H c' = none := I.hok.fresh ge
    have J := inv_table (t' := tk) (q := X.env.qual ++ "<lambda>") (more := #[rawInt pos.line, rawInt pos.col, .ref c']) (h' := h') I tP (fun b o hb g => hx b o hb g) tb ge ⟨oc, vs, t, hoc, hdc, hvc⟩
    have ex : ExtN H (upd (upd H P (.tbl (ps ++ #[rawInt pos.line, rawInt pos.col, .ref c']))) c' (CodeO c' (X.env.qual ++ "<lambda>"))) := fun b o g n => by
      have nb : b ≠ P := fun z => by
        subst z
        rw [tP] at g
        exact n ps (Option.some.inj g).symm
      rw [upd_ne (ne_of_none g nC), upd_ne nb]
      exact g
    refine fin c' h' tk _ ct _ J ex (fun b g => upd_none (upd_none g)) (fun p hp => ?_) upd_same
    by_cases hb : p.1 = P
    · rw [hu p hp hb, hb]
      have lst : (ps ++ #[rawInt pos.line, rawInt pos.col, .ref c']).toList = ps.toList ++ [rawInt pos.line, rawInt pos.col, .ref c'] := by simp
      refine ⟨_, (upd_ne (ne_of_none tP nC)).trans upd_same, by rw [lst]; exact PySem.TriplesOk_snoc _ _ _ _ t3, fun p2 cv g => ?_⟩
      rw [lst] at g
      rcases among_app _ t3 g with z | rfl
      · obtain ⟨c0, e1, e3⟩ := tq p2 cv z
        exact ⟨c0, e1, ex _ _ e3 codeO_ne⟩
      · exact ⟨c', rfl, upd_same⟩
    · obtain ⟨p2, a1, a2, a3⟩ := hT p hp
      refine ⟨p2, (upd_ne (ne_of_none a1 nC)).trans ((upd_ne hb).trans a1), a2, fun q cv g => ?_⟩
      obtain ⟨c0, e1, e3⟩ := a3 q cv g
      exact ⟨c0, e1, ex _ _ e3 codeO_ne⟩
end
/-- what a lambda promises: sp ws, ws what its captured cells hold at the call -/
structure LOk (P : Program) (w : World) (K : PySem.W.Frag) (mg : Str → Option Value) (base : Heap) (k : Nat) (F : NF) (e : Expr) (fr : List Str) (sp : List (Option V) → Sp) : Prop where
  run : ∀ (f : Addr) (A : Around) (outer : List Env) (s : Shared) (H : Hp) (us : List Value) (vs : List V) (ws : List (Option V)) (Q : VK) (E : XK), Room k A → Env0 P w K mg base A outer s H → H f = some (LamO f F e) → H F.c = some (CodeO F.c F.qual) →
    CellsAt F.cl fr ws s.heap H → Vals vs us → sp ws vs H Q E → codeAny (model P w) A (.call (.ref f) ⟨us, []⟩) (CR (L2.CX P w) outer P w H s Q E) s
section
variable {P : Program} {w : World} {K : PySem.W.Frag} {mg : Str → Option Value} {base : Heap} {N ps fr : List Str} {F : NF} {e : Expr} {k : Nat} {sp : List (Option V) → Sp}
/-- THE RULE: a lambda by its body -/
theorem lok_of (S : NScope N ps fr F.scope) (hb : ∀ (pm ct : Value) (us : List Value), us.length = ps.length → bindArgs (PySem.W.kla_fn "<lambda>" F.qual F.params e F.scope F.cl pm (.ref F.c) ct) ⟨us, []⟩ = pure (ps.zip us)) (len : ∀ ws vs H Q E, sp ws vs H Q E → vs.length = ps.length)
    (hbody : ∀ (f : Addr) (A : Around) (outer : List Env) (s : Shared) (H : Hp) (vs : List V) (ws : List (Option V)) (Q : VK) (E : XK), Room k (A.deeper (envF F f s.heap.objs.size)) → ws.length = fr.length →
      Takes (ncx (L2.CX P w) P w K mg base N F f A outer s H E) (fun cls d _ H' => E cls d H') → sp ws vs H Q E → ∃ t, PE (ncx (L2.CX P w) P w K mg base N F f A outer s H E) e t ∧ t (startF N vs ws) H Q) : LOk P w K mg base (k + 1) F e fr sp := by
  refine ⟨fun f A outer s H us vs ws Q E hr e0 hf hc C rv hsp => ?_⟩
  have hl : vs.length = ps.length := len _ _ _ _ _ hsp
  have room : s.heap.NoLimit := e0.mod.nolimit.keeps fun b o g => (e0.bs b o g).1
  obtain ⟨dd, sl, pm, ct, g⟩ := lamO_at e0.hok hf
  refine PySem.W.kla_callFunE hr.depth g rfl S.co S.gen rfl (codeO_at e0.hok hc) ?_
  rw [hb pm ct us (rv.length.symm.trans hl)]
  refine wpAny_pure (wpAny_newFunctionEnv S.nocell (fun ⟨n, _⟩ hy => S.par n (List.of_mem_zip hy).1) (fun h₁ ns sb => ⟨room.fresh _ sb, ?_⟩) S.kind)
  obtain ⟨t, ht, hq⟩ := hbody f A outer s H vs ws Q E (hr.deeper _) C.len (takes_of rfl rfl rfl rfl) hsp
  have J : Inv (ncx (L2.CX P w) P w K mg base N F f A outer s H E) [] (startF N vs ws) H { s with heap := h₁, toks := s.toks + (ps.zip us).length } :=
    inv_startN S hr.hd e0 hl rv C ns fun b o g => sb.extBut b o (Nat.ne_of_lt (Heap.lt_size g)) (Heap.get?_push_of_some _ g)
  show codeAny _ _ (.expr e (envF F f s.heap.objs.size)) _ _
  refine PySem.W.kla_codeExpr (wpAny_mono (ht.run [] _ _ H Q J hq) (fun u s2 r => ?_) fun _ _ z => z)
  obtain ⟨v, H2, J2, r2, q2⟩ := r
  exact ⟨v, H2, J2.os, J2.bare, J2.base, J2.hok, r2, q2⟩
end
section
variable {X : Cx} {W : WX} {F : NF} {e arg : Expr} {fr : List Str} {ws : List (Option V)} {sp : List (Option V) → Sp} {f : Addr} {x : Str} {i j k : Nat} {t : TA} {p pos : Pos}
/-- f(arg), in the def that was handed the lambda; its cells are told of the def's entry -/
theorem pe_lcall (C : CellsAt F.cl fr ws X.s_0.heap X.H_0) (nf : ∀ y c, F.cl.lookup y = some c → c ∉ X.fs) (hx : X.ex = []) (ok : LOk X.prog X.w X.K X.mg X.base k F e fr sp) (tk : Takes X W) (hr : Room j X.A) (hk : k ≤ j) (ha : PA X [arg] t) (hN : X.N[i]? = some x) (hv : Vis X.env.scope x)
    (hd : (x == ("__debug__" : Str)) = false := by decide) (hcd : (x == ("__classdict__" : Str)) = false := by decide) (he : starEach [arg] X.env = (false, eval arg X.env) :: starEach [] X.env := by rfl) (hpl : (backTo pos (starEach [] X.env)).any (·.1) = false := by rfl) :
    PE X (.Call (.Name x p) [arg] [] pos) (fun σ H Q => σ[i]? = some (some (.ref f)) ∧ H f = some (LamO f F e) ∧ t σ H fun vs H1 => H1 f = some (LamO f F e) ∧ H1 F.c = some (CodeO F.c F.qual) ∧ sp ws vs H1 Q (WE W σ)) := by
  refine ⟨fun pins s σ H Q I h => ?_⟩
  obtain ⟨hs, h0, h⟩ := h
  have isF : ∀ {H' : Hp} {s' : Shared}, Inv X pins σ H' s' → H' f = some (LamO f F e) → PySem.W.FnAt f s'.heap := fun J g => by
    obtain ⟨dd, sl, pm, ct, q⟩ := lamO_at J.hok g
    exact ⟨_, dd, _, sl, q⟩
  refine wpAny_Call_Name_kw (thn ((pe_var (pos := p) hN hv hd hcd).run pins s σ H (fun v H1 => v = .ref f ∧ H1 = H) I ⟨.ref f, hs, rfl, rfl⟩) fun u s1 ⟨v, H1, I1, r1, ev, eH⟩ => ?_)
  subst ev eH
  obtain rfl : u = Value.ref f := r1
  refine PySem.W.callWith_F (first := []) (isF I1 h0) (thn (ha.run pos pins s1 σ _ _ I1 h) fun us s2 ⟨vs, H2, I2, rv, g1, g2, q⟩ => ⟨isF I2 g1, ?_⟩) he hpl
  refine wpAny_call (codeAny_mono (ok.run f X.A X.stack s2 H2 us vs ws Q (WE W σ) (hr.mono hk) I2.env0 g1 g2 (C.later nf (fun y c _ z => by rw [hx] at z; exact nomatch z) I2) rv q) fun r s3 hq => ?_)
  cases r with
  | error z => exact passAt tk σ pins H2 s2 z s3 I2 hq
  | ok fl =>
    cases fl with
    | ret u => exact I2.after hq
    | next => exact hq.elim
    | brk => exact hq.elim
    | cont => exact hq.elim
/-- the lambda itself -/
def tLamN (T : List (Addr × Str)) (mk : Addr → NF) (e : Expr) : TE := fun _ H Q => Tabs T H ∧ ∀ (f c' : Addr) (H1 : Hp), ExtN H H1 → (∀ b, H1 b = none → H b = none) → Tabs T H1 → H f = none → H1 f = some (LamO f (mk c') e) → H1 c' = some (CodeO c' (mk c').qual) → Q (.ref f) H1
theorem pe_lamN {T : List (Addr × Str)} {c P : Addr} {params : Arguments} {body : Expr} {scope : Scope} (TB : TabB X.base X.mg c P) (hcode : X.env.code = .ref c) (hm : (P, X.env.qual ++ "<lambda>") ∈ T) (hu : ∀ p ∈ T, p.1 = P → p.2 = X.env.qual ++ "<lambda>")
    (hd : defaultsOf params X.env = ([], [])) (hf : ndefB X.env.scope scope fr = true) : PE X (.Lambda params body scope pos) (tLamN T (fun c' => ⟨"<lambda>", X.env.qual ++ "<lambda>", params, [], scope, cloFrom X.env.cells scope.names [], c'⟩) body) := by
  refine ⟨fun pins s σ H Q I h => ?_⟩
  have hfree := ndef_free hf
  exact lam_new I TB hcode hm hu h.1 hd (fun y hy e => (hfree y hy e).elim (fun z => I.ok.has _ (.inl z)) fun z => I.ok.has _ (.inr z)) fun f c' H1 s' J e1 n1 T1 n2 g1 g2 => ⟨.ref f, H1, J, rfl, h.2 f c' H1 e1 n1 T1 n2 g1 g2⟩
end
end G


set_option Elab.async false
set_option linter.all false
set_option maxRecDepth 100000
set_option maxHeartbeats 4000000
/-! A list comprehension whose element is told of the state in which the block began. -/
namespace G
open PySem PySem.Spec PyProof.Rows L2
/-- what a turn is to do -/
def LcTurn (J : It) (g : TG) (tt : TT) (te : TE) (τ : L2.St) (vs : List Nat) (D : Addr) (Q : Hp → Prop) (W : Nat → Nat → Hp → Prop) : Prop := ∀ i m H, W i m H → (J.stop i H ∧ Q H) ∨ (J.go i H ∧ ∃ Nx : Hp → Prop, (∀ H', Nx H' → ∃ m', m' < m ∧ W (i + 1) m' H') ∧
  ∀ x H', J.yld i H x H' → g x τ H' fun σ2 H2 => wipe σ2 vs = τ ∧ tt σ2 H2 fun b H3 => if b = true then te σ2 H3 fun y H4 => ∃ acc, H4 D = some (.lst acc) ∧ acc.length < sizeLine ∧ Nx (upd H4 D (.lst (acc ++ [y]))) else Nx H3)
section
variable {Y : Cx} {σ : L2.St} {vs : List Nat} {elt tg iter : Expr} {ifs : List Expr} {scope : Scope} {pos : Pos} {it D : Addr} {fp : List Addr} {tn : Nat → Heap → Prop} {J : It} {g : TG} {tt : TT} {te : TE} {Q : Hp → Prop} {W : Nat → Nat → Hp → Prop} {R : Result → Shared → Prop}
/-- the block's loop -/
theorem lc_turns (hc : Y.calm = true) (hxe : Y.xe = fun _ _ => False) (hpn : Y.pn = []) (still : ∀ {σ' : L2.St} {H' : Hp} {s' : Shared}, Inv Y [] σ' H' s' → (∀ b ∈ fp, H' b = none) → ∀ b ∈ fp, FpOk Y [] H' b) (T : Turn Y.prog Y.w Y.K tg J fp it tn) (pg : PG Y tg g) (pt : PTs Y ifs tt) (pe : PE Y elt te)
    (turn : LcTurn J g tt te (wipe σ vs) vs D Q W) (fin : ∀ H s, Inv Y [] (wipe σ vs) H s → Q H → R (.ok .next) s) (n : Nat) (s : Shared) (h : ∃ i H, Inv Y [] (wipe σ vs) H s ∧ tn i s.heap ∧ (∀ b ∈ fp, H b = none) ∧ W i n H) :
    codeAny (model Y.prog Y.w) Y.A (.compLoop (.ListComp elt [⟨tg, iter, ifs, 0⟩] scope pos) 0 (.ref it) (.ref D) Y.env) R s := by
  refine compLoop_any (fun n s => ∃ i H, Inv Y [] (wipe σ vs) H s ∧ tn i s.heap ∧ (∀ b ∈ fp, H b = none) ∧ W i n H) ?_ n h
  rintro n s ⟨i, H, I, st, nn, w⟩
  rcases turn i n H w with ⟨sp, q⟩ | ⟨go, Nx, nx, step⟩
  · refine thnF (T.done Y rfl rfl rfl hc i [] s _ H (fun _ _ => False) I (still I nn) st sp) fun r s1 ⟨e, I1⟩ => ?_
    subst e
    exact fin H s1 I1 q
  · refine thnF (T.item Y rfl rfl rfl hc i [] s _ H (fun _ _ => False) I (still I nn) st go) fun r s1 ⟨u, e, h1⟩ => ?_
    subst e
    refine thnF h1 fun _ s2 ⟨x, H2, I2, r2, y2, st2, n2⟩ => ?_
    have I2' := I2.pinned (still I2 n2) (T.obj _ _ st2)
    have un : ∀ {α : Type} {t : Sem α} {Q Q' : α → Shared → Prop} {s : Shared}, wpAny (model Y.prog Y.w) Y.A t Q Y.xe s → (∀ a s, Q a s → Q' a s) → wpAny (model Y.prog Y.w) Y.A t Q' (notedBy (model Y.prog Y.w) Y.A Y.env fun e s' => R (.error e) s') s :=
      fun z k => wpAny_mono z k fun _ _ f => by rw [hxe] at f; exact f.elim
    -- the next turn's start
    have next : ∀ {τ : L2.St} {H' : Hp} {s' : Shared}, wipe τ vs = wipe σ vs → Inv Y ([] ++ pinsAt fp s2.heap) τ H' s' → Nx H' → ∃ m, m < n ∧ ∃ i H, Inv Y [] (wipe σ vs) H s' ∧ tn i s'.heap ∧ (∀ b ∈ fp, H b = none) ∧ W i m H := by
      intro τ H' s' hw I' z
      obtain ⟨m, lt, w'⟩ := nx H' z
      have pin : ∀ b ∈ fp, ∀ o, s2.heap.get? b = some o → s'.heap.get? b = some o ∧ H' b = none := fun b hb o q => by
        obtain ⟨a1, a2, _⟩ := I'.pin (b, o) (by rw [hpn]; exact List.mem_append_right _ (List.mem_append_right _ (mem_pinsAt hb q)))
        exact ⟨a1, a2⟩
      refine ⟨m, lt, i + 1, H', (I'.unpinned (pins := [])).weak (by rw [← hw, wipe_length]) (fun j v q => (wipe_some (hw ▸ q)).1), T.keep _ _ _ st2 fun b hb o q => (pin b hb o q).1, fun b hb => ?_, w'⟩
      obtain ⟨o, q, _⟩ := T.obj _ _ st2 b hb
      exact (pin b hb o q).2
    refine un (pg.run _ s2 _ H2 x u _ I2' r2 (step x H2 y2)) fun _ s3 ⟨σ3, H3, I3, hw, q3⟩ => ?_
    refine un (pt.run _ s3 σ3 H3 _ I3 q3) fun b s4 ⟨H4, I4, q4⟩ => ?_
    cases b with
    | false => exact next hw I4 q4
    | true =>
      have q4' : te σ3 H4 _ := q4
      refine un (pe.run _ s4 σ3 H4 _ I4 q4') fun z s5 ⟨v, H5, I5, r5, acc, hD, hz, q5⟩ => ?_
      exact app_ok (X := Y) I5 hD hz r5 fun s6 I6 => next hw I6 q5
end
section
variable {X : Cx}
/-- THE RULE -/
theorem pe_lcS {elt tg iter : Expr} {ifs : List Expr} {scope : Scope} {own : List (Str × Nat)} {pos : Pos} {wi : TI} {g : TG} {tt : TT} {te : L2.St → TE} (hc : X.calm = true) (hN : X.N.Nodup) (hi : PI X tg iter wi) (ok : BlkOk X.N X.env.scope scope own)
    (hg : ∀ (s : Shared) (H : Hp) (C : Addr) (cl : List (Str × Addr)) (fp : List Addr), PG (X.blk s H scope (compEnvC scope cl C X.env) fp) tg g) (ht : ∀ (s : Shared) (H : Hp) (C : Addr) (cl : List (Str × Addr)) (fp : List Addr), PTs (X.blk s H scope (compEnvC scope cl C X.env) fp) ifs tt)
    (he : ∀ (pins : List (Addr × Obj)) (σ : L2.St) (s : Shared) (H : Hp) (C : Addr) (cl : List (Str × Addr)) (fp : List Addr), Inv X pins σ H s → (∀ b ∈ fp, FpOk X pins H b) → PE (X.blk s H scope (compEnvC scope cl C X.env) fp) elt (te σ))
    (hs : ∀ x, foldedSetIterable iter X.env x = pure x := by intro _; rfl) : PE X (.ListComp elt [⟨tg, iter, ifs, 0⟩] scope pos) (fun σ H Q => tLc wi g tt (te σ) (own.map (·.2)) σ H Q) := by
  refine ⟨fun pins s σ H Q I h => ?_⟩
  have hf : ∀ y ∈ scope.names, y.2 = .free → ∃ c, X.env.cells.lookup y.1 = some c := fun y hy e => (ok.free y hy e).elim (fun k => I.ok.has _ (.inl k)) fun k => I.ok.has _ (.inr k)
  rw [eval_ListComp]
  refine wpAny_comprehension_free (use := none) (gs := []) rfl hs (closure_ok hf) ok.kind (fun y hy e => (ok.uniq y hy).trans (congrArg some e)) (thn (hi.run pins s σ H _ I h) fun xv s1 hx => thn hx fun itv s2 h2 => ?_)
  obtain ⟨it, fp, tn, J, H2, rfl, I2, T, st, f2, q⟩ := h2
  have e1 : H2 s2.heap.objs.size = none := I2.hok.fresh (Nat.le_refl _)
  obtain ⟨W, ⟨m0, w0⟩, turn⟩ := q s2.heap.objs.size e1
  refine wpAny_newObj_type (newEnv_comp ?_) (by show 0 ≤ sizeLine; decide)
  generalize e3 : ({ s2 with heap := s2.heap.push { cls := .type "list", data := .seq ([] : List Value).toArray } } : Shared) = s3
  have k3 : ∀ b o, s2.heap.get? b = some o → s3.heap.get? b = some o := fun b o z => by rw [← e3]; exact Heap.get?_push_of_some _ z
  have I3 : Inv X pins σ (upd H2 s2.heap.objs.size (.lst [])) s3 := by
    rw [← e3]
    exact I2.laid (t' := s2.toks) (fun b o z => Heap.get?_push_of_some _ z) (Nat.le_refl _) ⟨Nat.zero_le _, [], 0, .nil, Heap.get?_push_size _ rfl⟩
  have f3 : ∀ b ∈ fp, FpOk X pins (upd H2 s2.heap.objs.size (.lst [])) b ∧ b < s3.heap.objs.size := fun b hb => by
    obtain ⟨o, z, _⟩ := T.obj _ _ st b hb
    obtain ⟨x0, x1⟩ := f2 b hb
    exact ⟨⟨(upd_ne (Nat.ne_of_lt (Heap.lt_size z))).trans x0, x1⟩, Heap.lt_size (k3 _ _ z)⟩
  have I4 := block_start I3 ok hN f3
  have pe := he pins σ s3 _ s3.heap.objs.size (cellsFrom (s3.heap.objs.size + 1) scope.names (cloFrom X.env.cells scope.names [])) fp I3 fun b hb => (f3 b hb).1
  have pg := hg s3 (upd H2 s2.heap.objs.size (.lst [])) s3.heap.objs.size (cellsFrom (s3.heap.objs.size + 1) scope.names (cloFrom X.env.cells scope.names [])) fp
  have pt := ht s3 (upd H2 s2.heap.objs.size (.lst [])) s3.heap.objs.size (cellsFrom (s3.heap.objs.size + 1) scope.names (cloFrom X.env.cells scope.names [])) fp
  show codeAny _ _ (.compStart (.ListComp elt [⟨tg, iter, ifs, 0⟩] scope pos) 0 (.ref it) (.ref s2.heap.objs.size) (compEnvC scope (cellsFrom (s3.heap.objs.size + 1) scope.names (cloFrom X.env.cells scope.names [])) s3.heap.objs.size X.env))
    (compPost (model X.prog X.w) X.A X.xe none (EP X pins σ Q) (.ref s2.heap.objs.size) s3.heap.objs.size) { s3 with heap := pushCells (s3.heap.push { cls := .type "dict", data := .dict #[] }) scope.names }
  generalize ec : compEnvC scope (cellsFrom (s3.heap.objs.size + 1) scope.names (cloFrom X.env.cells scope.names [])) s3.heap.objs.size X.env = ce at I4 pe pg pt ⊢
  have cL : ce.locals = s3.heap.objs.size := by rw [← ec]; rfl
  generalize e4 : ({ s3 with heap := pushCells (s3.heap.push { cls := .type "dict", data := .dict #[] }) scope.names } : Shared) = s4 at I4 ⊢
  have st4 : tn 0 s4.heap := T.keep _ _ _ st fun b _ o z => by rw [← e4]; exact pushCells_keeps _ _ _ _ (Heap.get?_push_of_some _ (k3 b o z))
  have loop : codeAny (model X.prog X.w) X.A (.compLoop (.ListComp elt [⟨tg, iter, ifs, 0⟩] scope pos) 0 (.ref it) (.ref s2.heap.objs.size) ce) (compPost (model X.prog X.w) X.A X.xe none (EP X pins σ Q) (.ref s2.heap.objs.size) s3.heap.objs.size) s4 := by
    refine lc_turns (Y := X.blk s3 (upd H2 s2.heap.objs.size (.lst [])) scope ce fp) (Q := fun H' => Q (.ref s2.heap.objs.size) H') (W := W) hc rfl rfl (fun {σ' H' s'} I' nn b hb => ?_) T pg pt pe turn (fun H5 s5 I5 q5 => ?_) m0 s4 ⟨0, _, I4, st4, fun b hb => (f3 b hb).1.1, w0⟩
    · exact ⟨nn b hb, (I'.ok.exf b hb).1, I'.ok.exfs b hb, .inl hb, fun x c z => (I'.ok.exf b hb).2 x c z, fun p hp => absurd (show p ∈ ([] : List (Addr × Obj)) ++ [] from hp) (by simp)⟩
    · have J5 : Inv X pins σ H5 s5 := I3.call' (ch := fp) I5.os I5.base I5.hok I5.bare fun b hb => ⟨(f3 b hb).1.2.2.2.1, (f3 b hb).1.2.1, (f3 b hb).1.2.2.2.2.1, (f3 b hb).1.2.2.2.2.2⟩
      have nC : H5 s3.heap.objs.size = none := by rw [← cL]; exact I5.free
      obtain ⟨m, hn, _⟩ := I5.loc
      refine ⟨m, cL ▸ hn, fun h6 sb => ?_⟩
      obtain ⟨g0, g1, g2, g3, g4, g5⟩ := I3.fpOk (Nat.le_refl _) nC
      exact ⟨.ref _, H5, J5.turned (t' := s5.toks) (fun b o hb z => (sb.2 b hb).trans z) g0 g1 g3 g4 g5, rfl, q5⟩
  exact codeAny_compStart_list loop (T.self X.A 0 _ _ _ st4 loop)
end
end G


set_option Elab.async false
set_option linter.all false
set_option maxRecDepth 100000
set_option maxHeartbeats 4000000
set_option pp.deepTerms true
set_option pp.maxSteps 100000
set_option format.width 230
namespace G
open PySem PySem.Spec PyProof.Rows L2
local macro_rules | `(tactic| walk_at "rd") => `(tactic| try simp only [cxOf_K, tSeq, tIfS, tTest, tB, tCB, tCons, tNil, tC, tVar, tOp, tUn, tAndV, tOrV, tNotV, tAnd, tOr, tNot, tIf, tChain, tRet, tRetN, tAsg, gName, tDrop, tNext, tCallS, WE, rI0, rI, rU, L2.start, tYes, tLc, tFor, gTup, gCons, gNil, tPar, tPar3, tAug, ipI, tWidth, tCall, tMeth, tMake, tFld, tRows, tTable, sFld, rMulT, rSumT, gSub, tBM, rAppend, rSetL, rExtend, rSlL, rSlQ, tCol, Int.toNat_natCast,  tSl, tNoPart, tPart, tTup, tLst, tNever, itu_g, sDPut, tDNewK, tDNewN, tDispN, rSetN, rIxN, rInN, tGetN, rGetN, iKN, iIN, iRg3, iRng3, rGetL, tAugS, tNo, rCopyN, rRep,
  List.map_cons, List.map_nil, List.length_cons, List.length_nil, List.cons_append, List.nil_append, List.replicate, Nat.reduceAdd, Nat.reduceSub, Nat.zero_add, Nat.sub_self,
  List.getElem?_cons_zero, List.getElem?_cons_succ, List.set_cons_zero, List.set_cons_succ, wipe, Option.some.injEq, exists_eq_left', exists_eq_left, V.bl.injEq, V.int.injEq, ref_inj, ty_inj, if_true, if_false, Bool.false_eq_true, Bool.true_eq_false, exists_const, exists_and_left, true_and, and_true, List.cons.injEq,
  isB_int, isB_bool, isB_tuple, isB_list, isT_at, iSq, iRg1, iRg2, iZ2, iZ3, iEn])
local macro_rules | `(tactic| walk_at "r1") => `(tactic| try simp only [cxOf_K, tSeq, tIfS, tTest, tB, tCB, tCons, tNil, tC, tVar, tOp, tUn, tAndV, tOrV, tNotV, tAnd, tOr, tNot, tIf, tChain, tRet, tRetN, tAsg, gName, tDrop, tNext, tCallS, WE, rI0, rI, rU, L2.start, tYes, gTup, gCons, gNil, tPar, tPar3, tAug, ipI, tWidth, tCall, tMeth, tMake, tFld, tRows, tTable, sFld, rMulT, rSumT, gSub, tBM, rAppend, rSetL, rExtend, rSlL, rSlQ, tCol, Int.toNat_natCast,  tSl, tNoPart, tPart, tTup, tLst, tNever, itu_g, sDPut, tDNewK, tDNewN, tDispN, rSetN, rIxN, rInN, tGetN, rGetN, iKN, iIN, iRg3, iRng3, rGetL, tAugS, tNo, rCopyN, rRep,
  List.map_cons, List.map_nil, List.length_cons, List.length_nil, List.cons_append, List.nil_append, List.replicate, Nat.reduceAdd, Nat.reduceSub, Nat.zero_add, Nat.sub_self,
  List.getElem?_cons_zero, List.getElem?_cons_succ, List.set_cons_zero, List.set_cons_succ, wipe, Option.some.injEq, exists_eq_left', exists_eq_left, V.bl.injEq, V.int.injEq, ref_inj, ty_inj, if_true, if_false, Bool.false_eq_true, Bool.true_eq_false, exists_const, exists_and_left, true_and, and_true, List.cons.injEq,
  isB_int, isB_bool, isB_tuple, isB_list, isT_at, iSq, iRg1, iRg2, iZ2, iZ3, iEn])
local macro_rules | `(tactic| walk_at "r0") => `(tactic| try simp only [cxOf_K, tIfS, tTest, tB, tCB, tCons, tNil, tC, tVar, tOp, tUn, tAndV, tOrV, tNotV, tAnd, tOr, tNot, tIf, tChain, tRet, tRetN, tAsg, gName, tDrop, tNext, tCallS, WE, rI0, rI, rU, L2.start, tYes, gTup, gCons, gNil, tPar, tPar3, tAug, ipI, tWidth, tCall, tMeth, tMake, tFld, tRows, tTable, sFld, rMulT, rSumT, gSub, tBM, rAppend, rSetL, rExtend, rSlL, rSlQ, tCol, Int.toNat_natCast,  tSl, tNoPart, tPart, tTup, tLst, tNever, itu_g, sDPut, tDNewK, tDNewN, tDispN, rSetN, rIxN, rInN, tGetN, rGetN, iKN, iIN, iRg3, iRng3, rGetL, tAugS, tNo, rCopyN, rRep,
  List.map_cons, List.map_nil, List.length_cons, List.length_nil, List.cons_append, List.nil_append, List.replicate, Nat.reduceAdd, Nat.reduceSub, Nat.zero_add, Nat.sub_self,
  List.getElem?_cons_zero, List.getElem?_cons_succ, List.set_cons_zero, List.set_cons_succ, wipe, Option.some.injEq, exists_eq_left', exists_eq_left, V.bl.injEq, V.int.injEq, ref_inj, ty_inj, if_true, if_false, Bool.false_eq_true, Bool.true_eq_false, exists_const, exists_and_left, true_and, and_true, List.cons.injEq,
  isB_int, isB_bool, isB_tuple, isB_list, isT_at, iSq, iRg1, iRg2, iZ2, iZ3, iEn])
local macro_rules | `(tactic| walk_at "st") => `(tactic| ((try dsimp only); rw [tSeq_def]))
local macro_rules | `(tactic| walk_at "lp") => `(tactic| first | rw [tFor_def] | rw [tLc_def] | rw [tWhile_def])
local macro_rules | `(tactic| walk_at "ex") => `(tactic| simp only [List.cons.injEq, and_true, true_and, and_assoc, exists_and_left, exists_eq_left', exists_eq_left, exists_eq_right, exists_const, V.int.injEq, V.bl.injEq, ref_inj, Bool.not_true, Bool.not_false, Bool.false_eq_true, if_true, if_false, Bool.true_eq_false])
section
variable {P : Program} {w : World} {K : PySem.W.Frag} {mg : Str → Option Value} {base : Heap} {a : Ad}
open LamX NdefX
/-! ### words of refusals -/
def strOfIx : V → Option Str
  | .non => some "None"
  | .int i => if i.natAbs.log2 < 1920 then some (toString i) else none
  | _ => none
theorem call_strIx {X : Cx} : CallR X (.type "str") (fun xs H Q => ∃ v z, xs = [v] ∧ strOfIx v = some z ∧ Q (.str z) H) := by
  intro pins s σ H xs us Q I r h
  obtain ⟨v, z, rfl, hv, q⟩ := h
  cases v with
  | non =>
    obtain ⟨u, rfl, r1⟩ := vals1 r
    cases r1
    cases hv
    exact PySem.P.str_of_none ⟨.str _, H, I.tok _, ⟨_, rfl⟩, q⟩
  | int i =>
    unfold strOfIx at hv
    by_cases hl : i.natAbs.log2 < 1920
    · simp only [if_pos hl, Option.some.injEq] at hv
      subst hv
      exact call_str_int pins s σ H _ us Q I r ⟨i, rfl, hl, q⟩
    · simp only [if_neg hl] at hv
      cases hv
  | _ => cases hv
/-- the word of a refusal -/
inductive WordOf (a : Ad) (H : Hp) : Value → Option Addr → Str → Prop
  | table {d : Option Addr} : WordOf a H (.ref a.cBT) d "table"
  | column {d : Option Addr} : WordOf a H (.ref a.cBC) d "column"
  | index {d : Option Addr} : WordOf a H (.ref a.cBI) d "index"
  | prices {d : Option Addr} : WordOf a H (.ref a.cBP) d "prices"
  | order {d : Option Addr} : WordOf a H (.ref a.cBO) d "order"
  | pieces {dd : Addr} {v : V} {z : Str} (hd : H dd = some (.xd [("index", v)])) (hv : strOfIx v = some z) (hz : ("pieces " : Str).length + z.length ≤ sizeLine) : WordOf a H (.ref a.cPc) (some dd) ("pieces " ++ z)
  | large {d : Option Addr} : WordOf a H (.ref a.cTL) d "large"
def wordE (a : Ad) (Q : VK) : XK := fun cls d H => ∃ z, WordOf a H cls d z ∧ Q (.str z) H
/-- what the clauses look at -/
structure WordT (K : PySem.W.Frag) (mg : Str → Option Value) (a : Ad) : Prop where
  gP : mg "BadPieces" = some (.ref a.cPc)
  gE : mg "ColumnError" = some (.ref a.cCE)
  xf : XfC K a.cPc
  nix : PySem.W.findIn K (.ref a.cPc) "index" = some none
  tt : PySem.W.exmOne K (.ref a.cBT) (.ref a.cBT) = some true
  ct : PySem.W.exmOne K (.ref a.cBC) (.ref a.cBT) = some false
  cc : PySem.W.exmOne K (.ref a.cBC) (.ref a.cBC) = some true
  it : PySem.W.exmOne K (.ref a.cBI) (.ref a.cBT) = some false
  ic : PySem.W.exmOne K (.ref a.cBI) (.ref a.cBC) = some false
  ii : PySem.W.exmOne K (.ref a.cBI) (.ref a.cBI) = some true
  pt : PySem.W.exmOne K (.ref a.cBP) (.ref a.cBT) = some false
  pc : PySem.W.exmOne K (.ref a.cBP) (.ref a.cBC) = some false
  pi : PySem.W.exmOne K (.ref a.cBP) (.ref a.cBI) = some false
  pp : PySem.W.exmOne K (.ref a.cBP) (.ref a.cBP) = some true
  ot : PySem.W.exmOne K (.ref a.cBO) (.ref a.cBT) = some false
  oc : PySem.W.exmOne K (.ref a.cBO) (.ref a.cBC) = some false
  oi : PySem.W.exmOne K (.ref a.cBO) (.ref a.cBI) = some false
  op : PySem.W.exmOne K (.ref a.cBO) (.ref a.cBP) = some false
  oo : PySem.W.exmOne K (.ref a.cBO) (.ref a.cBO) = some true
  xt : PySem.W.exmOne K (.ref a.cPc) (.ref a.cBT) = some false
  xc : PySem.W.exmOne K (.ref a.cPc) (.ref a.cBC) = some false
  xi : PySem.W.exmOne K (.ref a.cPc) (.ref a.cBI) = some false
  xp : PySem.W.exmOne K (.ref a.cPc) (.ref a.cBP) = some false
  xo : PySem.W.exmOne K (.ref a.cPc) (.ref a.cBO) = some false
  xx : PySem.W.exmOne K (.ref a.cPc) (.ref a.cPc) = some true
  lt : PySem.W.exmOne K (.ref a.cTL) (.ref a.cBT) = some false
  lc : PySem.W.exmOne K (.ref a.cTL) (.ref a.cBC) = some false
  li : PySem.W.exmOne K (.ref a.cTL) (.ref a.cBI) = some false
  lp : PySem.W.exmOne K (.ref a.cTL) (.ref a.cBP) = some false
  lo : PySem.W.exmOne K (.ref a.cTL) (.ref a.cBO) = some false
  lx : PySem.W.exmOne K (.ref a.cTL) (.ref a.cPc) = some false
  ll : PySem.W.exmOne K (.ref a.cTL) (.ref a.cTL) = some true
theorem LOk.weak {P : Program} {w : World} {K : PySem.W.Frag} {mg : Str → Option Value} {base : Heap} {k : Nat} {F : NF} {e : Expr} {fr : List Str} {sp : List (Option V) → Sp} (o : LOk P w K mg base k F e fr sp) :
    LOk P w K mg base k F e fr (fun ws vs H Q E => ∃ E' : XK, (∀ cls d H, E' cls d H → E cls d H) ∧ sp ws vs H Q E') := by
  refine ⟨fun f A outer s H us vs ws Q E hr e0 hf hc C rv h => ?_⟩
  obtain ⟨E', he, h⟩ := h
  refine codeAny_mono (o.run f A outer s H us vs ws Q E' hr e0 hf hc C rv h) fun r s' q => ?_
  cases r with
  | ok fl => cases fl <;> exact q
  | error z =>
    obtain ⟨b, B, H', cls, d, x1, x2, x3, x4, x5, x6, x7, x8⟩ := q
    exact ⟨b, B, H', cls, d, x1, x2, x3, x4, x5, x6, x7, he _ _ _ x8⟩
/-- _law_word, called with a lambda whose cells are told -/
structure WordOk (P : Program) (w : World) (K : PySem.W.Frag) (mg : Str → Option Value) (base : Heap) (a : Ad) (k : Nat) (g : Addr) : Prop where
  run : ∀ (F : NF) (e : Expr) (fr : List Str) (ws : List (Option V)) (sp : List (Option V) → Sp) (f : Addr) (A : Around) (outer : List Env) (s : Shared) (H : Hp) (Q : VK), Room (k + 1) A → Env0 P w K mg base A outer s H → CellsAt F.cl fr ws s.heap H → (∀ y c, F.cl.lookup y = some c → c ∉ frs outer) →
    LOk P w K mg base k F e fr sp → H f = some (LamO f F e) → H F.c = some (CodeO F.c F.qual) → sp ws [.int 0] H (fun _ H' => Q (.str "none") H') (wordE a Q) → codeAny (model P w) A (.call (.ref g) ⟨[.ref f], []⟩) (CR (L2.CX P w) outer P w H s Q fun _ _ _ => False) s
abbrev N__law_word : List Str := ["_law_call", "error"]
theorem ok_law_word (D : Def K mg "_law_word" 77) (T : Txt K mg a) (WT : WordT K mg a) (k : Nat) : ∃ g, mg "_law_word" = some (.ref g) ∧ PySem.W.keepIn K (.ref g) = true ∧ WordOk P w K mg base a k g := by
  obtain ⟨g, fd, F0, hm⟩ := D.ex
  have bnd := F0.binds (ps := ["_law_call"]) (fun _ _ _ _ _ _ us hl => match us, hl with | [_], _ => rfl)
  obtain ⟨oc, od, kV, doc, pm, an, cdv, ct, osl, rfl, lk, hcd⟩ := F0.ex
  have sc : FnScope N__law_word ["_law_call"] (defScope (top 77)) := C8.fnScope_by (by decide +kernel)
  have nd := sc.nd
  refine ⟨g, hm, F0.kp, ⟨fun F e fr ws sp f A outer s H Q hr e0 C nf ok hf hc hsp => ?_⟩⟩
  refine run_ofS (N := N__law_word) (ps := ["_law_call"]) (us := [.ref f]) (vs := [.ref f]) lk hcd sc hr e0 (bnd s [.ref f] (e0.mod.kin.keeps fun b o q => (e0.bs b o q).1) rfl) (.cons rfl .nil) rfl fun hr' => ?_
  refine ⟨_, pss_one (ps_tryC rfl rfl (fun W pn xe tk => pss_cons (ps_expr (pe_lcall (i := 0) (f := f) C nf rfl ok.weak tk hr' (Nat.le_refl _) (pa_cons pe_int pa_nil) rfl (.inl rfl))) (pss_one (ps_ret pe_str)))
    (.plain ⟨rfl, rfl, .inl T.BadTable.g⟩ (fun _ _ _ _ _ _ _ => pss_one (ps_ret pe_str))
    (.plain ⟨rfl, rfl, .inl T.BadColumn.g⟩ (fun _ _ _ _ _ _ _ => pss_one (ps_ret pe_str))
    (.plain ⟨rfl, rfl, .inl T.BadIndex.g⟩ (fun _ _ _ _ _ _ _ => pss_one (ps_ret pe_str))
    (.plain ⟨rfl, rfl, .inl T.BadPrices.g⟩ (fun _ _ _ _ _ _ _ => pss_one (ps_ret pe_str))
    (.plain ⟨rfl, rfl, .inl T.BadOrder.g⟩ (fun _ _ _ _ _ _ _ => pss_one (ps_ret pe_str))
    (.named (i := 1) ⟨rfl, rfl, .inl WT.gP⟩ nd rfl rfl (fun b oe cls d pn hz hv => pss_one (ps_ret (pe_op op_add_str pe_str (pe_callTy call_strIx (by rfl) T.str bi_str (pa_cons (pe_xf WT.xf WT.nix hz hv (pv 1)) pa_nil)))))
    (.plain ⟨rfl, rfl, .inl T.TooLarge.g⟩ (fun _ _ _ _ _ _ _ => pss_one (ps_ret pe_str))
    (.plain ⟨rfl, rfl, .inl WT.gE⟩ (fun _ _ _ _ _ _ _ => pss_one (ps_ret pe_str)) .nil))))))))), ?_⟩
  refine ⟨rfl, hf, hf, hc, wordE a Q, fun cls d H1 h => ?_, hsp⟩
  obtain ⟨z, wd, q⟩ := h
  cases wd with
  | table => exact ⟨true, WT.tt, fun _ _ _ => q, nofun⟩
  | column => exact ⟨false, WT.ct, nofun, fun _ => ⟨true, WT.cc, fun _ _ _ => q, nofun⟩⟩
  | index => exact ⟨false, WT.it, nofun, fun _ => ⟨false, WT.ic, nofun, fun _ => ⟨true, WT.ii, fun _ _ _ => q, nofun⟩⟩⟩
  | prices => exact ⟨false, WT.pt, nofun, fun _ => ⟨false, WT.pc, nofun, fun _ => ⟨false, WT.pi, nofun, fun _ => ⟨true, WT.pp, fun _ _ _ => q, nofun⟩⟩⟩⟩
  | order => exact ⟨false, WT.ot, nofun, fun _ => ⟨false, WT.oc, nofun, fun _ => ⟨false, WT.oi, nofun, fun _ => ⟨false, WT.op, nofun, fun _ => ⟨true, WT.oo, fun _ _ _ => q, nofun⟩⟩⟩⟩⟩
  | large => exact ⟨false, WT.lt, nofun, fun _ => ⟨false, WT.lc, nofun, fun _ => ⟨false, WT.li, nofun, fun _ => ⟨false, WT.lp, nofun, fun _ => ⟨false, WT.lo, nofun, fun _ => ⟨false, WT.lx, nofun, fun _ => ⟨true, WT.ll, fun _ _ _ => q, nofun⟩⟩⟩⟩⟩⟩⟩
  | pieces hd hv hz =>
    rename_i dd v z
    refine ⟨false, WT.xt, nofun, fun _ => ⟨false, WT.xc, nofun, fun _ => ⟨false, WT.xi, nofun, fun _ => ⟨false, WT.xp, nofun, fun _ => ⟨false, WT.xo, nofun, fun _ => ⟨true, WT.xx, fun _ b nb => ?_, nofun⟩⟩⟩⟩⟩⟩
    exact ⟨_, rfl, rfl, rfl, dd, _, v, rfl, hd, rfl, v, z, rfl, hv, _, _, rfl, rfl, hz, q⟩
/-- a lambda at f: its cells are such as Good tells, called with one value it does sp -/
def LamAt (P : Program) (w : World) (K : PySem.W.Frag) (mg : Str → Option Value) (base : Heap) (k : Nat) (Good : NF → List Str → List (Option V) → Prop) (H : Hp) (f : Addr) (sp : Hp → VK → XK → Prop) : Prop := ∃ (F : NF) (e : Expr) (fr : List Str) (ws : List (Option V)) (sp0 : List (Option V) → Sp),
  H f = some (LamO f F e) ∧ H F.c = some (CodeO F.c F.qual) ∧ Good F fr ws ∧ LOk P w K mg base k F e fr sp0 ∧ ∀ H Q E, sp H Q E → sp0 ws [.int 0] H Q E
section
variable {k : Nat} {Good : NF → List Str → List (Option V) → Prop} {H H' : Hp} {f : Addr} {sp sp' : Hp → VK → XK → Prop}
theorem LamAt.imp (l : LamAt P w K mg base k Good H f sp) (h : ∀ H Q E, sp' H Q E → sp H Q E) : LamAt P w K mg base k Good H f sp' :=
  let ⟨F, e, fr, ws, sp0, g1, g2, G1, ok, q⟩ := l; ⟨F, e, fr, ws, sp0, g1, g2, G1, ok, fun H Q E z => q H Q E (h H Q E z)⟩
theorem LamAt.keep (l : LamAt P w K mg base k Good H f sp) (e : ∀ b φ, H b = some (.ext φ) → H' b = some (.ext φ)) : LamAt P w K mg base k Good H' f sp :=
  let ⟨F, x, fr, ws, sp0, g1, g2, G1, ok, q⟩ := l; ⟨F, x, fr, ws, sp0, e _ _ g1, e _ _ g2, G1, ok, q⟩
end
/-- _law_word(e) -/
def tWord (P : Program) (w : World) (K : PySem.W.Frag) (mg : Str → Option Value) (base : Heap) (a : Ad) (k : Nat) (Good : L2.St → NF → List Str → List (Option V) → Prop) (te : TE) : TE := fun σ H Q => te σ H fun v H1 => ∃ (f : Addr) (sp : Hp → VK → XK → Prop),
  v = .ref f ∧ LamAt P w K mg base k (Good σ) H1 f sp ∧ sp H1 (fun _ H' => Q (.str "none") H') (wordE a Q)
def one1 (R : V → Hp → Prop) : List V → Hp → Prop
  | [v], H => R v H
  | _, _ => False
theorem pe_word {X : Cx} {k j : Nat} {g : Addr} {Good : L2.St → NF → List Str → List (Option V) → Prop} {arg : Expr} {te : TE} {p pos : Pos} (eP : X.prog = P) (ew : X.w = w) (eK : X.K = K) (em : X.mg = mg) (eb : X.base = base) (W : WordOk P w K mg base a k g) (hm : mg "_law_word" = some (.ref g)) (kp : PySem.W.keepIn K (.ref g) = true)
    (hG : ∀ pins σ H s F fr ws, Inv X pins σ H s → Good σ F fr ws → CellsAt F.cl fr ws s.heap H ∧ ∀ y c, F.cl.lookup y = some c → c ∉ frs X.stack) (hr : Room j X.A) (hk : k + 1 ≤ j) (he : PE X arg te) (hg : Gl X "_law_word" := by rfl)
    (hs : starEach [arg] X.env = (false, eval arg X.env) :: starEach [] X.env := by rfl) (hpl : (backTo pos (starEach [] X.env)).any (·.1) = false := by rfl) :
    PE X (.Call (.Name "_law_word" p) [arg] [] pos) (tWord P w K mg base a k Good te) := by
  subst eP ew eK em eb
  refine ⟨fun pins s σ H Q I h => ?_⟩
  refine wpAny_Call_Name_kw (ld_glob I hg hm (PySem.W.callWith_K (h₀ := X.base) I.ok.mod.kin kp (thn ((pa_cons he pa_nil hs).run pos pins s σ H (one1 fun v H1 => ∃ (f : Addr) (sp : Hp → VK → XK → Prop), v = .ref f ∧ LamAt X.prog X.w X.K X.mg X.base k (Good σ) H1 f sp ∧ sp H1 (fun _ H' => Q (.str "none") H') (wordE a Q)) I h) fun us s1 ⟨vs, H1, I1, r1, q1⟩ => ⟨I1.kIn, ?_⟩) hs hpl) rfl)
  match vs, r1, q1 with
  | [v], r1, q1 =>
    obtain ⟨f, sp, rfl, ⟨F, e, fr, ws, sp0, g1, g2, G1, ok, up⟩, q⟩ := q1
    obtain ⟨C, nf⟩ := hG _ _ _ _ _ _ _ I1 G1
    rw [Vals.ref1 r1]
    refine wpAny_call (codeAny_mono (W.run F e fr ws sp0 f X.A X.stack s1 H1 Q (hr.mono hk) I1.env0 C nf ok g1 g2 (up _ _ _ q)) fun r s2 hq => ?_)
    cases r with
    | error z =>
      obtain ⟨_, _, _, _, _, _, _, _, _, _, _, _, z⟩ := (show L2.CX X.prog X.w X.stack H1 s1 (fun _ _ _ => False) z s2 from hq)
      exact z.elim
    | ok fl =>
      cases fl with
      | ret u => exact I1.after hq
      | next => exact hq.elim
      | brk => exact hq.elim
      | cont => exact hq.elim
/-- the cells of the running def's own frame -/
def GoodX (X : Cx) (σ : L2.St) (F : NF) (fr : List Str) (ws : List (Option V)) : Prop := ∃ (scope : Scope) (js : List Nat), F.cl = cloFrom X.env.cells scope.names [] ∧ ndefB X.env.scope scope fr = true ∧ js.map (fun j => X.N[j]?) = fr.map some ∧ ws = js.map (slotAt σ)
section
variable {X : Cx} {pins : List (Addr × Obj)} {σ : L2.St} {H : Hp} {s : Shared} {F : NF} {fr : List Str} {ws : List (Option V)}
theorem goodX (hfn : ∀ x, X.fn x = true) (I : Inv X pins σ H s) (g : GoodX X σ F fr ws) : CellsAt F.cl fr ws s.heap H ∧ ∀ y c, F.cl.lookup y = some c → c ∉ frs X.stack := by
  obtain ⟨scope, js, hcl, hB, hj, rfl⟩ := g
  have cp := Caps.made I.ok (ndef_free hB) (ndef_fr hB) hj
  rw [hcl]
  refine ⟨cells_of I cp, fun y c e hm => ?_⟩
  have e1 := cp.sub y c e
  rcases List.mem_cons.mp (I.stkSub c hm) with z | z
  · exact I.cne y c e1 z
  · obtain ⟨_, o, ho, _⟩ := I.ok.funs.mem z
    exact absurd (Heap.lt_size ho) (Nat.not_lt_of_le (I.ok.cab y c (hfn y) e1))
theorem goodBlk {scope : Scope} {ce : Env} {fp : List Addr} (hfn : ∀ x, X.fn x = true) (I : Inv X pins σ H s) (hfp : ∀ b ∈ fp, FpOk X pins H b) {pins2 : List (Addr × Obj)} {σ2 : L2.St} {H2 : Hp} {s2 : Shared} (J : Inv (X.blk s H scope ce fp) pins2 σ2 H2 s2) (g : GoodX X σ F fr ws) :
    CellsAt F.cl fr ws s2.heap H2 ∧ ∀ y c, F.cl.lookup y = some c → c ∉ frs (X.blk s H scope ce fp).stack := by
  obtain ⟨C, nf⟩ := goodX hfn I g
  obtain ⟨sc, js, hcl, hB, hj, rfl⟩ := g
  refine ⟨C.later (X := X.blk s H scope ce fp) nf (fun y c e hm => ?_) J, nf⟩
  obtain ⟨_, _, _, _, nc, _⟩ := hfp c hm
  have cp := Caps.made I.ok (ndef_free hB) (ndef_fr hB) hj
  exact nc y c (cp.sub y c (hcl ▸ e)) rfl
end
/-- a lambda that captures fr (they stand at js) and does t -/
def tLamL (P : Program) (w : World) (K : PySem.W.Frag) (mg : Str → Option Value) (base : Heap) (k : Nat) (X : Cx) (T : List (Addr × Str)) (N : List Str) (js : List Nat) (t : XK → TE) : TE := fun σ H Q => Tabs T H ∧ ∀ (f : Addr) (H1 : Hp), ExtN H H1 → (∀ b, H1 b = none → H b = none) → Tabs T H1 → H f = none →
  (∀ σ2 : L2.St, js.map (NdefX.slotAt σ2) = js.map (NdefX.slotAt σ) → LamAt P w K mg base k (GoodX X σ2) H1 f (fun H Q E => t E (startF N [.int 0] (js.map (slotAt σ))) H Q)) → Q (.ref f) H1
theorem lok_pe {N fr : List Str} {x : Str} {F : NF} {e : Expr} {k : Nat} {t : XK → TE} (S : NScope N [x] fr F.scope) (hb : ∀ (pm ct : Value) (us : List Value), us.length = 1 → bindArgs (PySem.W.kla_fn "<lambda>" F.qual F.params e F.scope F.cl pm (.ref F.c) ct) ⟨us, []⟩ = pure ([x].zip us))
    (hbody : ∀ (f : Addr) (A : Around) (outer : List Env) (s : Shared) (H : Hp) (E : XK), Room k (A.deeper (envF F f s.heap.objs.size)) → Takes (ncx (L2.CX P w) P w K mg base N F f A outer s H E) (fun cls d _ H' => E cls d H') → PE (ncx (L2.CX P w) P w K mg base N F f A outer s H E) e (t E)) :
    LOk P w K mg base (k + 1) F e fr (fun ws vs H Q E => vs.length = 1 ∧ t E (startF N vs ws) H Q) :=
  lok_of S hb (fun _ _ _ _ _ h => h.1) fun f A outer s H vs ws Q E hr _ tk h => ⟨_, hbody f A outer s H E hr tk, h.2⟩
structure Tbs (base : Heap) (mg : Str → Option Value) (T : List (Addr × Str)) (c P : Addr) (q : Str) : Prop where
  tb : TabB base mg c P
  mem : (P, q) ∈ T
  uni : ∀ p ∈ T, p.1 = P → p.2 = q
theorem pe_lamL {X : Cx} {T : List (Addr × Str)} {c P0 : Addr} {params : Arguments} {body : Expr} {scope : Scope} {pos : Pos} {N fr : List Str} {js : List Nat} {x : Str} {k : Nat} {t : XK → TE} (eP : X.prog = P) (ew : X.w = w) (eK : X.K = K) (em : X.mg = mg) (eb : X.base = base) (TB : Tbs base mg T c P0 (X.env.qual ++ "<lambda>")) (hcode : X.env.code = .ref c)
    (hd : defaultsOf params X.env = ([], [])) (hB : ndefB X.env.scope scope fr = true) (hj : js.map (fun j => X.N[j]?) = fr.map some) (S : NScope N [x] fr scope)
    (hb : ∀ (q : Str) (cl : List (Str × Addr)) (c pm ct : Value) (us : List Value), us.length = 1 → bindArgs (PySem.W.kla_fn "<lambda>" q params body scope cl pm c ct) ⟨us, []⟩ = pure ([x].zip us))
    (hbody : ∀ (c' f : Addr) (A : Around) (outer : List Env) (s : Shared) (H : Hp) (E : XK), Room k (A.deeper (envF ⟨"<lambda>", X.env.qual ++ "<lambda>", params, [], scope, cloFrom X.env.cells scope.names [], c'⟩ f s.heap.objs.size)) →
      Takes (ncx (L2.CX P w) P w K mg base N ⟨"<lambda>", X.env.qual ++ "<lambda>", params, [], scope, cloFrom X.env.cells scope.names [], c'⟩ f A outer s H E) (fun cls d _ H' => E cls d H') →
      PE (ncx (L2.CX P w) P w K mg base N ⟨"<lambda>", X.env.qual ++ "<lambda>", params, [], scope, cloFrom X.env.cells scope.names [], c'⟩ f A outer s H E) body (t E)) :
    PE X (.Lambda params body scope pos) (tLamL P w K mg base (k + 1) X T N js t) := by
  subst eP ew eK em eb
  refine ⟨fun pins s σ H Q I h => (pe_lamN (pos := pos) TB.tb hcode TB.mem TB.uni hd hB).run pins s σ H Q I ⟨h.1, fun f c' H1 e1 n1 T1 n2 g1 g2 => h.2 f H1 e1 n1 T1 n2 fun σ2 es => ?_⟩⟩
  exact ⟨_, _, fr, _, _, g1, g2, ⟨scope, js, rfl, hB, hj, rfl⟩, lok_pe S (hb _ _ _) (hbody c'), fun H Q E z => ⟨rfl, by rw [es]; exact z⟩⟩
/-- a method that may raise -/
theorem pe_mxE {X : Cx} {k j : Nat} {C : Addr} {m : Str} {sp : Sp} {apos pos : Pos} {o e : Expr} {es : List Expr} {ta : TE} {t : TA} {E : XK} {pl : Sem Bool} (c : MetX X.prog X.w X.K X.mg X.base k C m sp) (cl : Cls X.K C) (hr : Room j X.A) (hk : k ≤ j) (tk : Takes X (fun cls d _ H' => E cls d H')) (he : PE X o ta) (ha : PA X (e :: es) t)
    (hst : starEach (e :: es) X.env = (false, eval e X.env) :: starEach es X.env := by rfl) (hpl : (backTo pos (starEach es X.env)).any (·.1) = false := by rfl)
    (ht : eval (.Call (.Attribute o m apos) (e :: es) [] pos) X.env = (do let ov ← eval o X.env; standAt apos.atName; let (f, first) ← holding [ov] (getMethod ov m pl); callWith pos f first (backTo pos (starEach (e :: es) X.env)) (backToKw pos (keywordEach [] X.env))) := by rfl) :
    PE X (.Call (.Attribute o m apos) (e :: es) [] pos) (tMeth C m sp [] E ta t) := by
  obtain ⟨f, fd, ps, hm, F, b⟩ := c.ex
  exact pe_meth he cl hm F (hr.mono hk) b .nil (passes_call tk fun _ _ _ _ h => h) ha hst hpl ht
end
end G


set_option Elab.async false
set_option linter.all false
set_option maxRecDepth 100000
set_option maxHeartbeats 4000000
set_option pp.deepTerms true
set_option pp.maxSteps 100000
set_option format.width 230
namespace G
open PySem PySem.Spec PyProof.Rows L2
local macro_rules | `(tactic| walk_at "rd") => `(tactic| try simp only [cxOf_K, tSeq, tIfS, tTest, tB, tCB, tCons, tNil, tC, tVar, tOp, tUn, tAndV, tOrV, tNotV, tAnd, tOr, tNot, tIf, tChain, tRet, tRetN, tAsg, gName, tDrop, tNext, tCallS, WE, rI0, rI, rU, L2.start, tYes, tLc, tFor, gTup, gCons, gNil, tPar, tPar3, tAug, ipI, tWidth, tCall, tMeth, tMake, tFld, tRows, tTable, sFld, rMulT, rSumT, gSub, tBM, rAppend, rSetL, rExtend, rSlL, rSlQ, tCol, Int.toNat_natCast,  tSl, tNoPart, tPart, tTup, tLst, tNever, itu_g, sDPut, tDNewK, tDNewN, tDispN, rSetN, rIxN, rInN, tGetN, rGetN, iKN, iIN, iRg3, iRng3, rGetL, tAugS, tNo, rCopyN, rRep,
  List.map_cons, List.map_nil, List.length_cons, List.length_nil, List.cons_append, List.nil_append, List.replicate, Nat.reduceAdd, Nat.reduceSub, Nat.zero_add, Nat.sub_self,
  List.getElem?_cons_zero, List.getElem?_cons_succ, List.set_cons_zero, List.set_cons_succ, wipe, Option.some.injEq, exists_eq_left', exists_eq_left, V.bl.injEq, V.int.injEq, ref_inj, ty_inj, if_true, if_false, Bool.false_eq_true, Bool.true_eq_false, exists_const, exists_and_left, true_and, and_true, List.cons.injEq,
  isB_int, isB_bool, isB_tuple, isB_list, isT_at, iSq, iRg1, iRg2, iZ2, iZ3, iEn])
local macro_rules | `(tactic| walk_at "r1") => `(tactic| try simp only [cxOf_K, tSeq, tIfS, tTest, tB, tCB, tCons, tNil, tC, tVar, tOp, tUn, tAndV, tOrV, tNotV, tAnd, tOr, tNot, tIf, tChain, tRet, tRetN, tAsg, gName, tDrop, tNext, tCallS, WE, rI0, rI, rU, L2.start, tYes, gTup, gCons, gNil, tPar, tPar3, tAug, ipI, tWidth, tCall, tMeth, tMake, tFld, tRows, tTable, sFld, rMulT, rSumT, gSub, tBM, rAppend, rSetL, rExtend, rSlL, rSlQ, tCol, Int.toNat_natCast,  tSl, tNoPart, tPart, tTup, tLst, tNever, itu_g, sDPut, tDNewK, tDNewN, tDispN, rSetN, rIxN, rInN, tGetN, rGetN, iKN, iIN, iRg3, iRng3, rGetL, tAugS, tNo, rCopyN, rRep,
  List.map_cons, List.map_nil, List.length_cons, List.length_nil, List.cons_append, List.nil_append, List.replicate, Nat.reduceAdd, Nat.reduceSub, Nat.zero_add, Nat.sub_self,
  List.getElem?_cons_zero, List.getElem?_cons_succ, List.set_cons_zero, List.set_cons_succ, wipe, Option.some.injEq, exists_eq_left', exists_eq_left, V.bl.injEq, V.int.injEq, ref_inj, ty_inj, if_true, if_false, Bool.false_eq_true, Bool.true_eq_false, exists_const, exists_and_left, true_and, and_true, List.cons.injEq,
  isB_int, isB_bool, isB_tuple, isB_list, isT_at, iSq, iRg1, iRg2, iZ2, iZ3, iEn])
local macro_rules | `(tactic| walk_at "r0") => `(tactic| try simp only [cxOf_K, tIfS, tTest, tB, tCB, tCons, tNil, tC, tVar, tOp, tUn, tAndV, tOrV, tNotV, tAnd, tOr, tNot, tIf, tChain, tRet, tRetN, tAsg, gName, tDrop, tNext, tCallS, WE, rI0, rI, rU, L2.start, tYes, gTup, gCons, gNil, tPar, tPar3, tAug, ipI, tWidth, tCall, tMeth, tMake, tFld, tRows, tTable, sFld, rMulT, rSumT, gSub, tBM, rAppend, rSetL, rExtend, rSlL, rSlQ, tCol, Int.toNat_natCast,  tSl, tNoPart, tPart, tTup, tLst, tNever, itu_g, sDPut, tDNewK, tDNewN, tDispN, rSetN, rIxN, rInN, tGetN, rGetN, iKN, iIN, iRg3, iRng3, rGetL, tAugS, tNo, rCopyN, rRep,
  List.map_cons, List.map_nil, List.length_cons, List.length_nil, List.cons_append, List.nil_append, List.replicate, Nat.reduceAdd, Nat.reduceSub, Nat.zero_add, Nat.sub_self,
  List.getElem?_cons_zero, List.getElem?_cons_succ, List.set_cons_zero, List.set_cons_succ, wipe, Option.some.injEq, exists_eq_left', exists_eq_left, V.bl.injEq, V.int.injEq, ref_inj, ty_inj, if_true, if_false, Bool.false_eq_true, Bool.true_eq_false, exists_const, exists_and_left, true_and, and_true, List.cons.injEq,
  isB_int, isB_bool, isB_tuple, isB_list, isT_at, iSq, iRg1, iRg2, iZ2, iZ3, iEn])
local macro_rules | `(tactic| walk_at "st") => `(tactic| ((try dsimp only); rw [tSeq_def]))
local macro_rules | `(tactic| walk_at "lp") => `(tactic| first | rw [tFor_def] | rw [tLc_def] | rw [tWhile_def])
local macro_rules | `(tactic| walk_at "ex") => `(tactic| simp only [List.cons.injEq, and_true, true_and, and_assoc, exists_and_left, exists_eq_left', exists_eq_left, exists_eq_right, exists_const, V.int.injEq, V.bl.injEq, ref_inj, Bool.not_true, Bool.not_false, Bool.false_eq_true, if_true, if_false, Bool.true_eq_false])
section
variable {P : Program} {w : World} {K : PySem.W.Frag} {mg : Str → Option Value} {base : Heap} {a : Ad}
open LamX NdefX
/-! ### what the lambdas' making leaves -/
structure DefC (K : PySem.W.Frag) (mg : Str → Option Value) (x : Str) (i : Nat) (c : Addr) : Prop where
  ex : ∃ (f : Addr) (oc : Value) (od : Option Addr) (kV doc pm : Value) (an : Option Addr) (ct : Value) (osl : Array (Option Value)), K.lookup f = some ⟨oc, od, .func (PySem.W.fnOf x x (defArgs (top i)) (defBody (top i)) (defScope (top i)) .none kV doc pm an (.ref c) ct), osl⟩ ∧
    PySem.W.codeIn K (.ref c) x = true ∧ PySem.W.keepIn K (.ref f) = true ∧ mg x = some (.ref f)
/-- a def whose code object is told -/
theorem calxC {x : Str} {i : Nat} {c : Addr} {N ps : List Str} {k : Nat} {sp : Sp} (D : DefC K mg x i c) (S : C8.scC N ps (defScope (top i)) = true) (len : ∀ vs H Q E, sp vs H Q E → vs.length = ps.length)
    (hb : ∀ (kV doc pm : Value) (an : Option Addr) (cdv ct : Value) (us : List Value), us.length = ps.length → bindArgs (PySem.W.fnOf x x (defArgs (top i)) (defBody (top i)) (defScope (top i)) .none kV doc pm an cdv ct) ⟨us, []⟩ = pure (ps.zip us))
    (hbody : ∀ (f : Addr) (A : Around) (outer : List Env) (s : Shared) (H : Hp) (vs : List V) (Q : VK) (E : XK), Room k (A.deeper (envOfC x (defScope (top i)) s.heap.objs.size f (.ref c))) → N.Nodup →
      Takes (cxOf (L2.CX P w) P w K mg base N x (defScope (top i)) f (.ref c) A outer s H E) (fun cls d _ H' => E cls d H') →
      PassesOwn (model P w) (A.deeper (envOfC x (defScope (top i)) s.heap.objs.size f (.ref c))) (envOfC x (defScope (top i)) s.heap.objs.size f (.ref c)) (cxOf (L2.CX P w) P w K mg base N x (defScope (top i)) f (.ref c) A outer s H E).xe → sp vs H Q E →
      ∃ t, PSs (cxOf (L2.CX P w) P w K mg base N x (defScope (top i)) f (.ref c) A outer s H E) (defBody (top i)) t ∧ t { nx := fun _ H' => Q .non H', rt := Q } (start N vs) H) : CalX P w K mg base (k + 1) x sp := by
  obtain ⟨f, oc, od, kV, doc, pm, an, ct, osl, lk, hcd, kp, hm⟩ := D.ex
  have sc := C8.fnScope_by S
  refine ⟨f, _, ps, fn_of lk hcd sc len fun A outer s H vs Q E hr h => hbody f A outer s H vs Q E hr sc.nd (takes_of rfl rfl rfl rfl) (passes_of rfl) h, hm, kp, ?_⟩
  exact .all (hb kV doc pm an (.ref c) ct)
/-- all but the draw and the tables stays -/
def SameT (d : Addr) (H H' : Hp) : Prop := ∀ b u, H b = some u → b ≠ d → (∀ ps, u ≠ .tbl ps) → H' b = some u
section
variable {d sc0 : Addr} {H H1 H' : Hp} {T : List (Addr × Str)} {CT : Addr}
theorem SameT.refl (d : Addr) (H : Hp) : SameT d H H := fun _ _ h _ _ => h
theorem SameT.trans (x : SameT d H H1) (y : SameT d H1 H') : SameT d H H' := fun b u h n t => y b u (x b u h n t) n t
theorem SameT.ofX (x : SameX d H H') : SameT d H H' := fun b u h n _ => x b u h n
theorem SameT.ofE (x : ExtN H H') : SameT d H H' := fun b u h _ t => x b u h t
theorem extN_same (x : ExtN H H1) (y : Same H1 H') : ExtN H H' := fun b o h t => y _ _ (x b o h t)
theorem tabs_x (t : Tabs T H) (hd : DrawAt K sc0 H d) (x : SameX d H H') : Tabs T H' := fun p hp => by
  obtain ⟨ps, h1, h2, h3⟩ := t p hp
  refine ⟨ps, x _ _ h1 (hd.ne h1 fun _ _ => nofun), h2, fun pos cv hc => ?_⟩
  obtain ⟨c, e1, e2⟩ := h3 pos cv hc
  exact ⟨c, e1, x _ _ e2 (hd.ne e2 fun _ _ z => by unfold CodeO at z; exact nomatch z)⟩
theorem sqL_ext {a : Addr} {xs : List V} (h : SqL K H a xs) (e : ExtN H H') : SqL K H' a xs := by
  rcases h with (h | ⟨o, h⟩) | h
  · exact .inl (.inl (e _ _ h fun _ => nofun))
  · exact .inl (.inr ⟨o, e _ _ h fun _ => nofun⟩)
  · exact .inr h
theorem DrawAt.ext (h : DrawAt K sc0 H d) (e : ExtN H H') : DrawAt K sc0 H' d := by
  obtain ⟨i, h1, ns, h2, h3⟩ := h
  exact ⟨i, e _ _ h1 (fun _ => nofun), ns, sqL_ext h2 e, h3⟩
theorem tg_ext {v : V} (g : Tg CT H v) (e : ExtN H H') : Tg CT H' v := by
  cases g with
  | non => exact .non
  | bl b => exact .bl b
  | int i => exact .int i
  | str s => exact .str s
  | lst h => exact .lst (e _ _ h fun _ => nofun)
  | tup h => exact .tup (e _ _ h fun _ => nofun)
  | dK h => exact .dK (e _ _ h fun _ => nofun)
  | tab h => exact .tab (e _ _ h fun _ => nofun)
theorem tgP_ext {v : V} (g : TgP CT H v) (e : ExtN H H') : TgP CT H' v := by
  refine ⟨tg_ext g.1 e, fun b xs hv h => ?_⟩
  subst hv
  have key : H b = some (.tup xs) := by
    obtain ⟨g1, _⟩ := g
    cases g1 with
    | lst hb => have z := e _ _ hb (fun _ => nofun); rw [h] at z; exact nomatch z
    | tup hb => have z := e _ _ hb (fun _ => nofun); rw [h] at z; have z2 := Option.some.inj z; injection z2 with z3; rw [z3]; exact hb
    | dK hb => have z := e _ _ hb (fun _ => nofun); rw [h] at z; exact nomatch z
    | tab hb => have z := e _ _ hb (fun _ => nofun); rw [h] at z; exact nomatch z
  obtain ⟨q1, q2⟩ := g.2 b xs rfl key
  exact ⟨fun x hx => tg_ext (q1 x hx) e, q2⟩
theorem prB_ext {v : V} {n : Nat} (g : Tg CT H v) (e : ExtN H H') : prB H' v n = prB H v n := by
  cases g with
  | non => rfl
  | bl b => rfl
  | int i => rfl
  | str s => rfl
  | lst h => unfold prB; simp only [h, e _ _ h fun _ => nofun]
  | tup h => unfold prB; simp only [h, e _ _ h fun _ => nofun]
  | dK h => unfold prB; simp only [h, e _ _ h fun _ => nofun]
  | tab h => unfold prB; simp only [h, e _ _ h fun _ => nofun]
theorem tb_ext {v : V} {R : List (List Int)} (t : Tb CT H v R) (e : ExtN H H') : Tb CT H' v R := by
  obtain ⟨b, dx, r, ts, rfl, h1, h2, h3⟩ := t
  exact ⟨b, dx, r, ts, rfl, e _ _ h1 (fun _ => nofun), e _ _ h2 (fun _ => nofun), Paired.imp2 h3 fun _ _ h => e _ _ h fun _ => nofun⟩
theorem odd_ext {v : V} (o : Odd CT H v) (e : ExtN H H') : Odd CT H' v := by
  cases o with
  | non => exact .non
  | bl b => exact .bl b
  | int i => exact .int i
  | str s => exact .str s
  | lst h hn => exact .lst (e _ _ h fun _ => nofun) hn
  | tup h h1 h2 => exact .tup (e _ _ h fun _ => nofun) h1 h2
  | tt h ht => exact .tt (e _ _ h fun _ => nofun) (e _ _ ht fun _ => nofun)
  | dK h => exact .dK (e _ _ h fun _ => nofun)
theorem rows_ext {ts : List Addr} {R : List (List Int)} (p : Paired (RowAt H) ts R) (e : ExtN H H') : Paired (RowAt H') ts R := Paired.imp2 p fun _ _ h => e _ _ h fun _ => nofun
end
/-- the law's table: odd, or a table of the rows -/
def TabV (a : Ad) (H : Hp) (v : V) (R : List (List Int)) (wh : Str) : Prop := (wh = "table" ∧ Odd a.CT H v) ∨ (wh = "none" ∧ Tb a.CT H v R)
theorem TabV.ext {a : Ad} {H H' : Hp} {v : V} {R : List (List Int)} {wh : Str} (t : TabV a H v R wh) (e : ExtN H H') : TabV a H' v R wh := t.elim (fun z => .inl ⟨z.1, odd_ext z.2 e⟩) fun z => .inr ⟨z.1, tb_ext z.2 e⟩
theorem TabV.tg {a : Ad} {H : Hp} {v : V} {R : List (List Int)} {wh : Str} (t : TabV a H v R wh) : Tg a.CT H v := t.elim (fun z => z.2.tgP.1) fun z => z.2.tg
theorem word_lam {X : Cx} {k : Nat} {T : List (Addr × Str)} {N : List Str} {js : List Nat} {t : XK → TE} {σ : L2.St} {H : Hp} {Q : VK} (hT : Tabs T H) (h : ∀ H1, ExtN H H1 → (∀ b, H1 b = none → H b = none) → Tabs T H1 → t (wordE a Q) (startF N [.int 0] (js.map (slotAt σ))) H1 (fun _ H' => Q (.str "none") H')) :
    tWord P w K mg base a k (GoodX X) (tLamL P w K mg base k X T N js t) σ H Q :=
  ⟨hT, fun f H1 e1 n1 T1 _ L => ⟨f, _, rfl, L σ rfl, h H1 e1 n1 T1⟩⟩
theorem prB_x {d sc0 : Addr} {CT : Addr} {H H' : Hp} {v : V} {n : Nat} (g : Tg CT H v) (hd : DrawAt K sc0 H d) (hd' : DrawAt K sc0 H' d) (e : SameX d H H') : prB H' v n = prB H v n := by
  cases g with
  | non => rfl
  | bl b => rfl
  | int i => rfl
  | str s => rfl
  | lst h =>
    rename_i b xs
    by_cases hb : b = d
    · subst hb
      obtain ⟨i, h1, _⟩ := hd'
      unfold prB; simp only [h, h1]
    · unfold prB; simp only [h, e _ _ h hb]
  | tup h => unfold prB; simp only [h, e _ _ h (hd.ne h fun _ _ => nofun)]
  | dK h => unfold prB; simp only [h, e _ _ h (hd.ne h fun _ _ => nofun)]
  | tab h => unfold prB; simp only [h, e _ _ h (hd.ne h fun _ _ => nofun)]
/-- None, a bool, an int -/
inductive Smp : V → Prop where
  | non : Smp .non
  | bl (b : Bool) : Smp (.bl b)
  | int (i : Int) : Smp (.int i)
theorem Smp.tg {CT : Addr} {H : Hp} {v : V} (s : Smp v) : Tg CT H v := by
  cases s with
  | non => exact .non
  | bl b => exact .bl b
  | int i => exact .int i
section
variable {H : Hp} {CT : Addr} {Q : VK} {b : Addr} {xs : List V} {n : Nat}
theorem len_le' (h : H b = some (.lst xs)) (e : xs.length = n) (q : Q (.int (n : Nat)) H) : rLenA K CT [.ref b] H Q := len_l h (by rw [e]; exact q)
theorem len_te' (h : H b = some (.tup xs)) (e : xs.length = n) (q : Q (.int (n : Nat)) H) : rLenA K CT [.ref b] H Q := len_t h (by rw [e]; exact q)
/-- a draw of one of some simple things -/
theorem pick_smp {d sc0 p : Addr} {Q : VK} {E : XK} (hd : DrawAt K sc0 H d) (h : H p = some (.lst xs)) (h0 : 0 < xs.length) (hs : ∀ x ∈ xs, Smp x) (ne : p ≠ d) (q : ∀ v H', Smp v → SameX d H H' → DrawAt K sc0 H' d → Q v H') : spLp K [.ref d, .ref p] H Q E :=
  ⟨d, p, sc0, xs, rfl, hd, h, h0, ne, fun i H' hi x' d' => q _ H' (hs _ (getD_mem hi)) x' d'⟩
end
/-- what stands while things are drawn -/
structure DS (K : PySem.W.Frag) (a : Ad) (sc0 d : Addr) (T0 : List (Addr × Str)) (H0 : Hp) (pv : V) (wd : Nat) (cost : Str) (H : Hp) : Prop where
  x : SameX d H0 H
  d : DrawAt K sc0 H d
  t : Tabs T0 H
  gp : TgP a.CT H pv
  c : prW H pv wd = cost
section
variable {a : Ad} {sc0 d : Addr} {T0 : List (Addr × Str)} {H0 : Hp} {pv : V} {wd : Nat} {cost : Str} {H H' : Hp}
theorem DS.same (s : DS K a sc0 d T0 H0 pv wd cost H) (e : Same H H') : DS K a sc0 d T0 H0 pv wd cost H' := ⟨s.x.same e, s.d.same e, s.t.ext e, s.gp.same e, by unfold prW; rw [prB_same s.gp.1 e]; exact s.c⟩
theorem DS.xx (s : DS K a sc0 d T0 H0 pv wd cost H) (e : SameX d H H') (d' : DrawAt K sc0 H' d) : DS K a sc0 d T0 H0 pv wd cost H' := ⟨s.x.trans e, d', tabs_x s.t s.d e, s.gp.x s.d d' e, by unfold prW; rw [prB_x s.gp.1 s.d d' e]; exact s.c⟩
end
theorem DrawAt.nw {d sc0 p : Addr} {H : Hp} (hd : DrawAt K sc0 H d) (h : H p = none) : p ≠ d := fun e => by
  obtain ⟨i, h1, _⟩ := hd
  rw [e, h1] at h
  exact nomatch h

/-! ### the first word that is not none -/
theorem fw_ne {x : Str} {ws : List Str} (h : x ≠ "none") : firstW (x :: ws) = x := by
  unfold firstW
  rw [List.filter_cons, if_pos (by simp [h])]
  rfl
theorem fw_none {ws : List Str} : firstW ("none" :: ws) = firstW ws := by
  unfold firstW
  rw [List.filter_cons, if_neg (by simp)]
theorem fw_nil : firstW [] = "none" := rfl
theorem ne_table : ("table" : Str) ≠ "none" := by decide +kernel
theorem ne_column : ("column" : Str) ≠ "none" := by decide +kernel
theorem ne_index : ("index" : Str) ≠ "none" := by decide +kernel
theorem ne_prices : ("prices" : Str) ≠ "none" := by decide +kernel
theorem ne_order : ("order" : Str) ≠ "none" := by decide +kernel
theorem ne_large : ("large" : Str) ≠ "none" := by decide +kernel
theorem prW_t {H : Hp} {v : V} {n : Nat} (h : prB H v n = true) : prW H v n = "none" := by unfold prW; rw [h]; rfl
theorem prW_f {H : Hp} {v : V} {n : Nat} (h : prB H v n = false) : prW H v n = "prices" := by unfold prW; rw [h]; rfl
/-- none, or the word -/
def okW (b : Bool) (x : Str) : Str := if b = true then "none" else x
theorem okW_t {x : Str} : okW true x = "none" := rfl
theorem okW_f {x : Str} : okW false x = x := rfl
section
variable {a : Ad} {H : Hp} {Q : VK} {tv pv wide place first past : V} {R : List (List Int)} {wd : Nat} {wh : Str} {ws : List Str}
/-- a raise's word -/
theorem rz_table (q : ∀ H', Same H H' → Q (.str (firstW ("table" :: ws))) H') : Rz (wordE a Q) H a.cBT := fun H' e => ⟨_, .table, by have z := q H' e; rw [fw_ne ne_table] at z; exact z⟩
theorem rz_column (q : ∀ H', Same H H' → Q (.str (firstW ("column" :: ws))) H') : Rz (wordE a Q) H a.cBC := fun H' e => ⟨_, .column, by have z := q H' e; rw [fw_ne ne_column] at z; exact z⟩
theorem rz_index (q : ∀ H', Same H H' → Q (.str (firstW ("index" :: ws))) H') : Rz (wordE a Q) H a.cBI := fun H' e => ⟨_, .index, by have z := q H' e; rw [fw_ne ne_index] at z; exact z⟩
theorem rz_prices (q : ∀ H', Same H H' → Q (.str (firstW ("prices" :: ws))) H') : Rz (wordE a Q) H a.cBP := fun H' e => ⟨_, .prices, by have z := q H' e; rw [fw_ne ne_prices] at z; exact z⟩
theorem rz_order (q : ∀ H', Same H H' → Q (.str (firstW ("order" :: ws))) H') : Rz (wordE a Q) H a.cBO := fun H' e => ⟨_, .order, by have z := q H' e; rw [fw_ne ne_order] at z; exact z⟩
theorem rz_large (q : ∀ H', Same H H' → Q (.str (firstW ("large" :: ws))) H') : Rz (wordE a Q) H a.cTL := fun H' e => ⟨_, .large, by have z := q H' e; rw [fw_ne ne_large] at z; exact z⟩
/-- the table's word comes first -/
theorem tab_no (tab : TabV a H tv R wh) (h : isT a.CT H tv = false) (q : ∀ H', Same H H' → Q (.str (firstW (wh :: ws))) H') : Rz (wordE a Q) H a.cBT := by
  rcases tab with ⟨rfl, o⟩ | ⟨rfl, t⟩
  · exact rz_table q
  · rw [t.isT] at h
    exact nomatch h
theorem tab_yes (tab : TabV a H tv R wh) (h : isT a.CT H tv = true) (q : ∀ H', Same H H' → Q (.str (firstW (wh :: ws))) H') : Tb a.CT H tv R ∧ ∀ H', Same H H' → Q (.str (firstW ws)) H' := by
  rcases tab with ⟨rfl, o⟩ | ⟨rfl, t⟩
  · rw [o.isT] at h
    exact nomatch h
  · exact ⟨t, fun H' e => by have z := q H' e; rw [fw_none] at z; exact z⟩
theorem ok_no {b : Bool} {x : Str} {ws : List Str} (h : b = false) (q : ∀ H', Same H H' → Q (.str (firstW (okW b x :: ws))) H') : ∀ H', Same H H' → Q (.str (firstW (x :: ws))) H' := by subst h; exact q
theorem ok_yes {b : Bool} {x : Str} {ws : List Str} (h : b = true) (q : ∀ H', Same H H' → Q (.str (firstW (okW b x :: ws))) H') : ∀ H', Same H H' → Q (.str (firstW ws)) H' := by
  subst h
  intro H' e
  have z := q H' e
  rw [okW_t, fw_none] at z
  exact z
theorem pr_no (h : prB H pv wd = false) (q : ∀ H', Same H H' → Q (.str (firstW (prW H pv wd :: ws))) H') : Rz (wordE a Q) H a.cBP := rz_prices (ws := ws) (by rw [prW_f h] at q; exact q)
theorem pr_yes (h : prB H pv wd = true) (q : ∀ H', Same H H' → Q (.str (firstW (prW H pv wd :: ws))) H') : ∀ H', Same H H' → Q (.str (firstW ws)) H' := by
  rw [prW_t h] at q
  intro H' e
  have z := q H' e
  rw [fw_none] at z
  exact z
theorem out_sl (tab : TabV a H tv R wh) (S : Shp R wd) (gw : Tg a.CT H wide) (gp : TgP a.CT H pv) (q : ∀ H', Same H H' → Q (.str (firstW [wh, okW (isNum wide 1 R.length) "index", prW H pv wd])) H') : spSl a [tv, wide, pv] H (fun _ H' => Q (.str "none") H') (wordE a Q) := by
  refine ⟨tv, wide, pv, rfl, tab.tg, gw, gp, fun h => tab_no tab h q, fun h => ?_⟩
  obtain ⟨t, q1⟩ := tab_yes tab h q
  exact ⟨R, wd, t, S, fun h => rz_index (ok_no h q1), fun h => ⟨fun h2 => pr_no h2 (ok_yes h q1), fun h2 r H' ns e _ _ _ => pr_yes h2 (ok_yes h q1) H' e⟩⟩
theorem out_em (tab : TabV a H tv R wh) (S : Shp R wd) (gw : Tg a.CT H wide) (gp : TgP a.CT H pv) (q : ∀ H', Same H H' → Q (.str (firstW [wh, okW (isNum wide 1 R.length) "index", prW H pv wd])) H') : spEm a [tv, wide, pv] H (fun _ H' => Q (.str "none") H') (wordE a Q) := by
  refine ⟨tv, wide, pv, rfl, tab.tg, gw, gp, fun h => tab_no tab h q, fun h => ?_⟩
  obtain ⟨t, q1⟩ := tab_yes tab h q
  exact ⟨R, wd, t, S, fun h => rz_index (ok_no h q1), fun h => ⟨fun h2 => pr_no h2 (ok_yes h q1), fun h2 _ H' e => pr_yes h2 (ok_yes h q1) H' e⟩⟩
theorem out_all (tab : TabV a H tv R wh) (S : Shp R wd) (gp : TgP a.CT H pv) (q : ∀ H', Same H H' → Q (.str (firstW [wh, prW H pv wd])) H') : spAll a [tv, pv] H (fun _ H' => Q (.str "none") H') (wordE a Q) := by
  refine ⟨tv, pv, rfl, tab.tg, gp, fun h => tab_no tab h q, fun h => ?_⟩
  obtain ⟨t, q1⟩ := tab_yes tab h q
  exact ⟨R, wd, t, S, fun h2 => pr_no h2 q1, fun h2 _ H' e => pr_yes h2 q1 H' e⟩
theorem out_qu (tab : TabV a H tv R wh) (S : Shp R wd) (q : ∀ H', Same H H' → Q (.str (firstW [wh])) H') : spQu a [tv] H (fun _ H' => Q (.str "none") H') (wordE a Q) := by
  refine ⟨tv, rfl, tab.tg, fun h => tab_no tab h q, fun h => ?_⟩
  obtain ⟨t, q1⟩ := tab_yes tab h q
  exact ⟨R, wd, t, S, fun _ H' e => q1 H' e⟩
/-- a page's bounds -/
def pgB (first past : V) (m : Nat) : Bool := match first with
  | .int i => isNum first 0 ((m : Int) - 1) && isNum past (i + 1) m
  | _ => false
theorem out_page (tab : TabV a H tv R wh) (S : Shp R wd) (g1 : Tg a.CT H first) (g2 : Tg a.CT H past) (gp : TgP a.CT H pv) (q : ∀ H', Same H H' → Q (.str (firstW [wh, okW (pgB first past R.length) "index", prW H pv wd])) H') : spPage a [tv, first, past, pv] H (fun _ H' => Q (.str "none") H') (wordE a Q) := by
  refine ⟨tv, first, past, pv, rfl, tab.tg, g1, g2, gp, fun h => tab_no tab h q, fun h => ?_⟩
  obtain ⟨t, q1⟩ := tab_yes tab h q
  refine ⟨R, wd, t, S, fun h => rz_index (ok_no ?_ q1), fun h => ?_⟩
  · rcases h with h | ⟨i, rfl, h⟩
    · unfold pgB
      cases first with
      | int i => simp only [h, Bool.false_and]
      | _ => rfl
    · unfold pgB
      simp only [h, Bool.and_false]
  · obtain ⟨i, rfl, h1, h2⟩ := h
    have hp : pgB (.int i) past R.length = true := by unfold pgB; simp only [h1, h2, Bool.and_true]
    exact ⟨fun h2 => pr_no h2 (ok_yes hp q1), fun h2 _ H' e => pr_yes h2 (ok_yes hp q1) H' e⟩
theorem out_pre (tab : TabV a H tv R wh) (S : Shp R wd) (g1 : Tg a.CT H place) (g2 : Tg a.CT H wide) (q : ∀ H', Same H H' → Q (.str (firstW [wh, okW (isNum place 0 ((wd : Int) - 1)) "column", okW (isNum wide 1 R.length) "index"])) H') {ok : Prop} (hok : (∀ H', Same H H' → Q (.str "none") H') → ok) :
    PreT a H (wordE a Q) tv place wide ok := by
  refine ⟨tab.tg, g1, g2, fun h => tab_no tab h q, fun h => ?_⟩
  obtain ⟨t, q1⟩ := tab_yes tab h q
  exact ⟨R, wd, t, S, fun h => rz_column (ok_no h q1), fun h h2 => rz_index (ok_no h2 (ok_yes h q1)), fun h h2 => hok (ok_yes h2 (ok_yes h q1))⟩
theorem prW_ext {CT : Addr} {H H' : Hp} {v : V} {n : Nat} (g : Tg CT H v) (e : ExtN H H') : prW H' v n = prW H v n := by unfold prW; rw [prB_ext g e]
/-- words that can be compared -/
def Lay (x : Str) : Prop := PyData.canLay0 (.str x) = true
theorem lay_none : Lay "none" := by unfold Lay; decide +kernel
theorem lay_table : Lay "table" := by unfold Lay; decide +kernel
theorem lay_column : Lay "column" := by unfold Lay; decide +kernel
theorem lay_index : Lay "index" := by unfold Lay; decide +kernel
theorem lay_prices : Lay "prices" := by unfold Lay; decide +kernel
theorem lay_order : Lay "order" := by unfold Lay; decide +kernel
theorem lay_large : Lay "large" := by unfold Lay; decide +kernel
theorem Lay.okW {b : Bool} {x : Str} (h : Lay x) : Lay (okW b x) := by cases b; exact h; exact lay_none
theorem lay_prW {H : Hp} {v : V} {n : Nat} : Lay (prW H v n) := by unfold prW; split; exact lay_none; exact lay_prices
theorem TabV.lay (t : TabV a H tv R wh) : Lay wh := t.elim (fun z => z.1 ▸ lay_table) fun z => z.1 ▸ lay_none
theorem TabV.fw (t : TabV a H tv R wh) : firstW [wh] = wh := t.elim (fun z => by rw [z.1]; exact fw_ne ne_table) fun z => by rw [z.1]; exact fw_none
theorem lay3 {x y z : Str} (h1 : Lay x) (h2 : Lay y) (h3 : Lay z) : ∀ u ∈ [x, y, z], PyData.canLay0 (.str u) = true := fun u hu => by
  simp only [List.mem_cons, List.not_mem_nil, or_false] at hu
  rcases hu with rfl | rfl | rfl <;> assumption
theorem lay2 {x y : Str} (h1 : Lay x) (h2 : Lay y) : ∀ u ∈ [x, y], PyData.canLay0 (.str u) = true := fun u hu => by
  simp only [List.mem_cons, List.not_mem_nil, or_false] at hu
  rcases hu with rfl | rfl <;> assumption
theorem first_ne {xs : List V} {n : Nat} {A B : Hp → Prop} {E : XK} (hx : xs = ws.map V.str) (hn : n ≤ sizeLine) (hw : ws.length ≤ 100) (lay : ∀ x ∈ ws, PyData.canLay0 (.str x) = true) (h : ∀ H', Same H H' → B H') :
    n ≤ sizeLine ∧ ∀ p, H p = none → spLf [.ref p] (upd H p (.lst xs)) (fun y H2 => rNe (.str (firstW ws)) y H2 fun x H' => ∃ k, x = .bl k ∧ if k = true then A H' else B H') E := by
  refine ⟨hn, fun p hp => ⟨p, ws, rfl, by rw [hx]; exact upd_same, hw, lay, fun H' e => ⟨rfl, _, rfl, ?_⟩⟩⟩
  rw [decide_eq_true rfl, if_neg (by decide)]
  exact h H' fun b o hb => e b o (same_new (Same.refl H) hp b o hb)
theorem cmp_ne {x y : Str} {A B : Hp → Prop} (e : x = y) (h : B H) : rNe (.str x) (.str y) H fun x H' => ∃ k, x = .bl k ∧ if k = true then A H' else B H' := by
  refine ⟨rfl, _, rfl, ?_⟩
  rw [decide_eq_true (by rw [e]), if_neg (by decide)]
  exact h
end
/-- what stands while calls are checked -/
structure CS (T0 : List (Addr × Str)) (H0 H : Hp) : Prop where
  e : ExtN H0 H
  t : Tabs T0 H
theorem CS.same {T0 : List (Addr × Str)} {H0 H H' : Hp} (c : CS T0 H0 H) (e : Same H H') : CS T0 H0 H' := ⟨extN_same c.e e, c.t.ext e⟩
theorem CS.ext {T0 : List (Addr × Str)} {H0 H H' : Hp} (c : CS T0 H0 H) (e : ExtN H H') (t : Tabs T0 H') : CS T0 H0 H' := ⟨c.e.trans e, t⟩
/-- a call whose word is due -/
def DueAt (a : Ad) (T0 : List (Addr × Str)) (H0 : Hp) (due : Str) : Hp → VK → XK → Prop := fun H Qn E => CS T0 H0 H ∧ ∃ Q : VK, Qn = (fun _ H' => Q (.str "none") H') ∧ E = wordE a Q ∧ ∀ H', Same H H' → Q (.str due) H'
/-- a lambda that is made, at any slots that have the same there -/
def LamS (P : Program) (w : World) (K : PySem.W.Frag) (mg : Str → Option Value) (base : Heap) (X : Cx) (js : List Nat) (ws : List (Option V)) (H : Hp) (f : Addr) (sp : Hp → VK → XK → Prop) : Prop := ∀ σ2 : L2.St, js.map (NdefX.slotAt σ2) = ws → LamAt P w K mg base 8 (GoodX X σ2) H f sp
theorem LamS.ext {X : Cx} {js : List Nat} {ws : List (Option V)} {H H' : Hp} {f : Addr} {sp : Hp → VK → XK → Prop} (l : LamS P w K mg base X js ws H f sp) (e : ExtN H H') : LamS P w K mg base X js ws H' f sp := fun σ2 h => (l σ2 h).keep fun b φ hb => e b _ hb fun _ => nofun
theorem LamS.due {a : Ad} {T0 : List (Addr × Str)} {H0 : Hp} {due : Str} {X : Cx} {js : List Nat} {ws : List (Option V)} {H : Hp} {f : Addr} {sp : Hp → VK → XK → Prop} (l : ∀ σ2 : L2.St, js.map (NdefX.slotAt σ2) = ws → LamAt P w K mg base 8 (GoodX X σ2) H f sp)
    (h : ∀ H Q, CS T0 H0 H → (∀ H', Same H H' → Q (.str due) H') → sp H (fun _ H' => Q (.str "none") H') (wordE a Q)) : LamS P w K mg base X js ws H f (DueAt a T0 H0 due) := fun σ2 e => (l σ2 e).imp fun H Qn E z => by
  obtain ⟨C, Q, rfl, rfl, q⟩ := z
  exact h H Q C q
theorem okW_ite {b : Bool} {x : Str} {G : Str → Prop} (h : G (okW b x)) : if b = true then G "none" else G x := by cases b <;> exact h
end
end G


set_option Elab.async false
set_option linter.all false
set_option maxRecDepth 100000
set_option maxHeartbeats 4000000
set_option pp.deepTerms true
set_option pp.maxSteps 100000
set_option format.width 230
namespace G
open PySem PySem.Spec PyProof.Rows L2
local macro_rules | `(tactic| walk_at "rd") => `(tactic| try simp only [cxOf_K, tSeq, tIfS, tTest, tB, tCB, tCons, tNil, tC, tVar, tOp, tUn, tAndV, tOrV, tNotV, tAnd, tOr, tNot, tIf, tChain, tRet, tRetN, tAsg, gName, tDrop, tNext, tCallS, WE, rI0, rI, rU, L2.start, tYes, tLc, tFor, gTup, gCons, gNil, tPar, tPar3, tAug, ipI, tWidth, tCall, tMeth, tMake, tFld, tRows, tTable, sFld, rMulT, rSumT, gSub, tBM, rAppend, rSetL, rExtend, rSlL, rSlQ, tCol, Int.toNat_natCast,  tSl, tNoPart, tPart, tTup, tLst, tNever, itu_g, sDPut, tDNewK, tDNewN, tDispN, rSetN, rIxN, rInN, tGetN, rGetN, iKN, iIN, iRg3, iRng3, rGetL, tAugS, tNo, rCopyN, rRep,
  List.map_cons, List.map_nil, List.length_cons, List.length_nil, List.cons_append, List.nil_append, List.replicate, Nat.reduceAdd, Nat.reduceSub, Nat.zero_add, Nat.sub_self,
  List.getElem?_cons_zero, List.getElem?_cons_succ, List.set_cons_zero, List.set_cons_succ, wipe, Option.some.injEq, exists_eq_left', exists_eq_left, V.bl.injEq, V.int.injEq, ref_inj, ty_inj, if_true, if_false, Bool.false_eq_true, Bool.true_eq_false, exists_const, exists_and_left, true_and, and_true, List.cons.injEq,
  isB_int, isB_bool, isB_tuple, isB_list, isT_at, iSq, iRg1, iRg2, iZ2, iZ3, iEn])
local macro_rules | `(tactic| walk_at "r1") => `(tactic| try simp only [cxOf_K, tSeq, tIfS, tTest, tB, tCB, tCons, tNil, tC, tVar, tOp, tUn, tAndV, tOrV, tNotV, tAnd, tOr, tNot, tIf, tChain, tRet, tRetN, tAsg, gName, tDrop, tNext, tCallS, WE, rI0, rI, rU, L2.start, tYes, gTup, gCons, gNil, tPar, tPar3, tAug, ipI, tWidth, tCall, tMeth, tMake, tFld, tRows, tTable, sFld, rMulT, rSumT, gSub, tBM, rAppend, rSetL, rExtend, rSlL, rSlQ, tCol, Int.toNat_natCast,  tSl, tNoPart, tPart, tTup, tLst, tNever, itu_g, sDPut, tDNewK, tDNewN, tDispN, rSetN, rIxN, rInN, tGetN, rGetN, iKN, iIN, iRg3, iRng3, rGetL, tAugS, tNo, rCopyN, rRep,
  List.map_cons, List.map_nil, List.length_cons, List.length_nil, List.cons_append, List.nil_append, List.replicate, Nat.reduceAdd, Nat.reduceSub, Nat.zero_add, Nat.sub_self,
  List.getElem?_cons_zero, List.getElem?_cons_succ, List.set_cons_zero, List.set_cons_succ, wipe, Option.some.injEq, exists_eq_left', exists_eq_left, V.bl.injEq, V.int.injEq, ref_inj, ty_inj, if_true, if_false, Bool.false_eq_true, Bool.true_eq_false, exists_const, exists_and_left, true_and, and_true, List.cons.injEq,
  isB_int, isB_bool, isB_tuple, isB_list, isT_at, iSq, iRg1, iRg2, iZ2, iZ3, iEn])
local macro_rules | `(tactic| walk_at "r0") => `(tactic| try simp only [cxOf_K, tIfS, tTest, tB, tCB, tCons, tNil, tC, tVar, tOp, tUn, tAndV, tOrV, tNotV, tAnd, tOr, tNot, tIf, tChain, tRet, tRetN, tAsg, gName, tDrop, tNext, tCallS, WE, rI0, rI, rU, L2.start, tYes, gTup, gCons, gNil, tPar, tPar3, tAug, ipI, tWidth, tCall, tMeth, tMake, tFld, tRows, tTable, sFld, rMulT, rSumT, gSub, tBM, rAppend, rSetL, rExtend, rSlL, rSlQ, tCol, Int.toNat_natCast,  tSl, tNoPart, tPart, tTup, tLst, tNever, itu_g, sDPut, tDNewK, tDNewN, tDispN, rSetN, rIxN, rInN, tGetN, rGetN, iKN, iIN, iRg3, iRng3, rGetL, tAugS, tNo, rCopyN, rRep,
  List.map_cons, List.map_nil, List.length_cons, List.length_nil, List.cons_append, List.nil_append, List.replicate, Nat.reduceAdd, Nat.reduceSub, Nat.zero_add, Nat.sub_self,
  List.getElem?_cons_zero, List.getElem?_cons_succ, List.set_cons_zero, List.set_cons_succ, wipe, Option.some.injEq, exists_eq_left', exists_eq_left, V.bl.injEq, V.int.injEq, ref_inj, ty_inj, if_true, if_false, Bool.false_eq_true, Bool.true_eq_false, exists_const, exists_and_left, true_and, and_true, List.cons.injEq,
  isB_int, isB_bool, isB_tuple, isB_list, isT_at, iSq, iRg1, iRg2, iZ2, iZ3, iEn])
local macro_rules | `(tactic| walk_at "st") => `(tactic| ((try dsimp only); rw [tSeq_def]))
local macro_rules | `(tactic| walk_at "lp") => `(tactic| first | rw [tFor_def] | rw [tLc_def] | rw [tWhile_def])
local macro_rules | `(tactic| walk_at "ex") => `(tactic| simp only [List.cons.injEq, and_true, true_and, and_assoc, exists_and_left, exists_eq_left', exists_eq_left, exists_eq_right, exists_const, V.int.injEq, V.bl.injEq, ref_inj, Bool.not_true, Bool.not_false, Bool.false_eq_true, if_true, if_false, Bool.true_eq_false])
section
variable {P : Program} {w : World} {K : PySem.W.Frag} {mg : Str → Option Value} {base : Heap} {a : Ad}
open LamX NdefX
/-- _law_tables_right(draw, table, word, rows) -/
def spTR (K : PySem.W.Frag) (a : Ad) (T : List (Addr × Str)) : Sp := fun vs H Q _ => ∃ (d sc0 l : Addr) (tv : V) (wh : Str) (ts : List Addr) (R : List (List Int)) (w : Nat), vs = [.ref d, tv, .str wh, .ref l] ∧ DrawAt K sc0 H d ∧ Tabs T H ∧ l ≠ d ∧ H l = some (.lst (ts.map V.ref)) ∧ Paired (RowAt H) ts R ∧ Shp R w ∧ TabV a H tv R wh ∧
  ∀ H', SameT d H H' → DrawAt K sc0 H' d → Tabs T H' → Q (.bl true) H'
theorem tb_x {d sc0 : Addr} {CT : Addr} {H H' : Hp} {v : V} {R : List (List Int)} (t : Tb CT H v R) (hd : DrawAt K sc0 H d) (x : SameX d H H') : Tb CT H' v R := by
  obtain ⟨b, dx, r, ts, rfl, h1, h2, h3⟩ := t
  exact ⟨b, dx, r, ts, rfl, x _ _ h1 (hd.ne h1 fun _ _ => nofun), x _ _ h2 (hd.ne h2 fun _ _ => nofun), Paired.imp2 h3 fun _ _ h => x _ _ h (hd.ne h fun _ _ => nofun)⟩
abbrev N__law_tables_right : List Str := ["_law_draw", "_law_table", "_law_word_here", "_law_rows_here", "_law_many", "_law_width", "_law_prices", "_law_cost_now", "_law_wide", "_law_first_here", "_law_past", "_law_place", "_law_size", "_law_is_page", "_law_due", "_law_calls", "_law_call"]
set_option maxHeartbeats 16000000 in
theorem ok_law_tables_right {g c P0 : Addr} {T0 : List (Addr × Str)} (D : DefC K mg "_law_tables_right" 81 c) (T : Txt K mg a) (M : TabM P w K mg base a.CT) (W : WordOk P w K mg base a 8 g ∧ mg "_law_word" = some (.ref g) ∧ PySem.W.keepIn K (.ref g) = true)
    (TB : Tbs base mg T0 c P0 ((("_law_tables_right" : Str) ++ ".<locals>.") ++ "<lambda>")) (cl_Thinned : Cls K a.CTh)
    (c__law_take : CalX P w K mg base 4 "_law_take" (spLt K)) (c__law_pick : CalX P w K mg base 5 "_law_pick" (spLp K)) (c__law_odd : CalX P w K mg base 6 "_law_odd" (spLo K a)) (c__law_some_prices : CalX P w K mg base 7 "_law_some_prices" (spLs2 K a))
    (c__law_prices_word : CalX P w K mg base 3 "_law_prices_word" (spLw a)) (c__law_is_number : CalX P w K mg base 1 "_law_is_number" (spNum a.CT)) (c__law_first : CalX P w K mg base 1 "_law_first" spLf)
    (c_sliding : CalX P w K mg base 6 "sliding" (spSl a)) (c_ends_of_most : CalX P w K mg base 7 "ends_of_most" (spEm a)) (c_all_cost : CalX P w K mg base 4 "all_cost" (spAll a)) (c_quiet : CalX P w K mg base 5 "quiet" (spQu a)) (c_page_cost : CalX P w K mg base 6 "page_cost" (spPage a))
    (c_thin : CalX P w K mg base 5 "thin" (spT a)) (c_fewest_thinned : CalX P w K mg base 5 "fewest_thinned" (spT a)) (c_most_thinned : CalX P w K mg base 5 "most_thinned" (spMost a)) (c_count_thinned : CalX P w K mg base 6 "count_thinned" (spT a))
    (c_Thinned : MkX P w K mg base 1 "Thinned" a.CTh (spTi P w K a.CTh)) (c_Thinned_shows : MetX P w K mg base 5 a.CTh "shows" (spSh a K)) : CalX P w K mg base 10 "_law_tables_right" (spTR K a T0) := by
  refine calxC (N := N__law_tables_right) (ps := ["_law_draw", "_law_table", "_law_word_here", "_law_rows_here"]) D (by decide +kernel) (fun vs H Q E h => ?_) (fun _ _ _ _ _ _ us hl => match us, hl with | [_, _, _, _], _ => rfl) (fun f A outer s H vs Q E hr nd tk pn h => ⟨_, (pss_cons (ps_asg (pe_tup (pa_cons (pe_callB (call_lenK (K := K) rfl M hr (by decide)) (by rfl) T.len bi_len (pa_cons (pv 3) pa_nil)) (pa_cons (pe_callB (call_lenK (K := K) rfl M hr (by decide)) (by rfl) T.len bi_len (pa_cons (pe_ix (ixK (K := K) rfl) (pv 3) pe_int (fun _ _ => rfl)) pa_nil)) (pa_cons (pe_cx c__law_some_prices hr (by decide) tk (pa_cons (pv 0) (pa_cons (pe_callB (call_lenK (K := K) rfl M hr (by decide)) (by rfl) T.len bi_len (pa_cons (pe_ix (ixK (K := K) rfl) (pv 3) pe_int (fun _ _ => rfl)) pa_nil)) pa_nil))) pa_nil)))) (pg_tupK (K := K) (n := 3) rfl rfl (pgs_cons (pg_name (i := 4) nd rfl (Or.inl rfl)) (pgs_cons (pg_name (i := 5) nd rfl (Or.inl rfl)) (pgs_cons (pg_name (i := 6) nd rfl (Or.inr rfl)) pgs_nil)))))
      (pss_cons (ps_asg (pe_tup (pa_cons (pe_cx c__law_prices_word hr (by decide) tk (pa_cons (pv 6) (pa_cons (pv 5) pa_nil))) (pa_cons (pe_cx c__law_pick hr (by decide) tk (pa_cons (pv 0) (pa_cons (pe_lst (pa_cons pe_int (pa_cons (pv 4) (pa_cons (pe_op op_add (pv 4) pe_int) (pa_cons pe_int (pa_cons pe_bl (pa_cons pe_non (pa_cons (pe_un un_neg pe_int) pa_nil)))))))) pa_nil))) pa_nil))) (pg_tupK (K := K) (n := 2) rfl rfl (pgs_cons (pg_name (i := 7) nd rfl (Or.inl rfl)) (pgs_cons (pg_name (i := 8) nd rfl (Or.inr rfl)) pgs_nil))))
      (pss_cons (ps_asg (pe_tup (pa_cons (pe_cx c__law_pick hr (by decide) tk (pa_cons (pv 0) (pa_cons (pe_lst (pa_cons pe_int (pa_cons (pe_op op_sub (pv 4) pe_int) (pa_cons (pv 4) (pa_cons (pe_un un_neg pe_int) (pa_cons pe_bl pa_nil)))))) pa_nil))) (pa_cons (pe_cx c__law_pick hr (by decide) tk (pa_cons (pv 0) (pa_cons (pe_lst (pa_cons pe_int (pa_cons (pv 4) (pa_cons (pe_op op_add (pv 4) pe_int) (pa_cons pe_int (pa_cons pe_non pa_nil)))))) pa_nil))) pa_nil))) (pg_tupK (K := K) (n := 2) rfl rfl (pgs_cons (pg_name (i := 9) nd rfl (Or.inr rfl)) (pgs_cons (pg_name (i := 10) nd rfl (Or.inr rfl)) pgs_nil))))
      (pss_cons (ps_set (i := 11) nd rfl (Or.inr rfl) (pe_ifExp (pt_cmpR op_eq (pe_cx c__law_take hr (by decide) tk (pa_cons (pv 0) (pa_cons pe_int pa_nil))) pe_int (nomark _)) (pe_cx c__law_odd hr (by decide) tk (pa_cons (pv 0) pa_nil)) (pe_cx c__law_take hr (by decide) tk (pa_cons (pv 0) (pa_cons (pe_op op_add (pv 5) pe_int) pa_nil)))))
      (pss_cons (ps_set (i := 12) nd rfl (Or.inl rfl) (pe_ifExp (pt_val (pe_cx c__law_is_number hr (by decide) tk (pa_cons (pv 8) (pa_cons pe_int (pa_cons (pv 4) pa_nil))))) pe_str pe_str))
      (pss_cons (ps_if (pt_cmpR op_ne (pe_word (P := P) (w := w) (K := K) (mg := mg) (base := base) rfl rfl rfl rfl rfl W.1 W.2.1 W.2.2 (fun _ _ _ _ _ _ _ J g => goodX (fun _ => rfl) J g) hr (by decide) (pe_lamL (N := ["_law_ka", "_law_table", "_law_wide", "_law_prices"]) (fr := ["_law_table", "_law_wide", "_law_prices"]) (js := [1, 8, 6]) (x := "_law_ka") (k := 7) (P := P) (w := w) (K := K) (mg := mg) (base := base) rfl rfl rfl rfl rfl TB rfl rfl (show ndefB (defScope (top 81)) _ _ = true by decide +kernel) rfl (nscope_by (by decide +kernel)) (fun _ _ _ _ _ us hl => match us, hl with | [_], _ => rfl)
        (fun c' f A outer s H E hr tk => (pe_cx c_sliding hr (by decide) tk (pa_cons (pv 1) (pa_cons (pv 2) (pa_cons (pv 3) pa_nil))))))) (pe_cx c__law_first hr (by decide) tk (pa_cons (pe_lst (pa_cons (pv 2) (pa_cons (pv 12) (pa_cons (pv 7) pa_nil)))) pa_nil)) (nomark _))
      (pss_one (ps_ret pe_bl))
      pss_nil)
      (pss_cons (ps_if (pt_cmpR op_ne (pe_word (P := P) (w := w) (K := K) (mg := mg) (base := base) rfl rfl rfl rfl rfl W.1 W.2.1 W.2.2 (fun _ _ _ _ _ _ _ J g => goodX (fun _ => rfl) J g) hr (by decide) (pe_lamL (N := ["_law_kb", "_law_table", "_law_wide", "_law_prices"]) (fr := ["_law_table", "_law_wide", "_law_prices"]) (js := [1, 8, 6]) (x := "_law_kb") (k := 7) (P := P) (w := w) (K := K) (mg := mg) (base := base) rfl rfl rfl rfl rfl TB rfl rfl (show ndefB (defScope (top 81)) _ _ = true by decide +kernel) rfl (nscope_by (by decide +kernel)) (fun _ _ _ _ _ us hl => match us, hl with | [_], _ => rfl)
        (fun c' f A outer s H E hr tk => (pe_cx c_ends_of_most hr (by decide) tk (pa_cons (pv 1) (pa_cons (pv 2) (pa_cons (pv 3) pa_nil))))))) (pe_cx c__law_first hr (by decide) tk (pa_cons (pe_lst (pa_cons (pv 2) (pa_cons (pv 12) (pa_cons (pv 7) pa_nil)))) pa_nil)) (nomark _))
      (pss_one (ps_ret pe_bl))
      pss_nil)
      (pss_cons (ps_if (PW.pt (pw_or (pt_cmpR op_ne (pe_word (P := P) (w := w) (K := K) (mg := mg) (base := base) rfl rfl rfl rfl rfl W.1 W.2.1 W.2.2 (fun _ _ _ _ _ _ _ J g => goodX (fun _ => rfl) J g) hr (by decide) (pe_lamL (N := ["_law_kc", "_law_table", "_law_prices"]) (fr := ["_law_table", "_law_prices"]) (js := [1, 6]) (x := "_law_kc") (k := 7) (P := P) (w := w) (K := K) (mg := mg) (base := base) rfl rfl rfl rfl rfl TB rfl rfl (show ndefB (defScope (top 81)) _ _ = true by decide +kernel) rfl (nscope_by (by decide +kernel)) (fun _ _ _ _ _ us hl => match us, hl with | [_], _ => rfl)
        (fun c' f A outer s H E hr tk => (pe_cx c_all_cost hr (by decide) tk (pa_cons (pv 1) (pa_cons (pv 2) pa_nil)))))) (pe_cx c__law_first hr (by decide) tk (pa_cons (pe_lst (pa_cons (pv 2) (pa_cons (pv 7) pa_nil))) pa_nil)) (nomark _)) (pw_or1 (pt_cmpR op_ne (pe_word (P := P) (w := w) (K := K) (mg := mg) (base := base) rfl rfl rfl rfl rfl W.1 W.2.1 W.2.2 (fun _ _ _ _ _ _ _ J g => goodX (fun _ => rfl) J g) hr (by decide) (pe_lamL (N := ["_law_kd", "_law_table"]) (fr := ["_law_table"]) (js := [1]) (x := "_law_kd") (k := 7) (P := P) (w := w) (K := K) (mg := mg) (base := base) rfl rfl rfl rfl rfl TB rfl rfl (show ndefB (defScope (top 81)) _ _ = true by decide +kernel) rfl (nscope_by (by decide +kernel)) (fun _ _ _ _ _ us hl => match us, hl with | [_], _ => rfl)
        (fun c' f A outer s H E hr tk => (pe_cx c_quiet hr (by decide) tk (pa_cons (pv 1) pa_nil))))) (pv 2) (nomark _)))))
      (pss_one (ps_ret pe_bl))
      pss_nil)
      (pss_cons (ps_set (i := 13) nd rfl (Or.inl rfl) (pe_and (pe_cx c__law_is_number hr (by decide) tk (pa_cons (pv 9) (pa_cons pe_int (pa_cons (pe_op op_sub (pv 4) pe_int) pa_nil)))) (pe_one (pe_cx c__law_is_number hr (by decide) tk (pa_cons (pv 10) (pa_cons (pe_op op_add (pe_callTy crI_int (by rfl) T.int bi_int (pa_cons (pv 9) pa_nil)) pe_int) (pa_cons (pv 4) pa_nil)))))))
      (pss_cons (ps_if (pt_cmpR op_ne (pe_word (P := P) (w := w) (K := K) (mg := mg) (base := base) rfl rfl rfl rfl rfl W.1 W.2.1 W.2.2 (fun _ _ _ _ _ _ _ J g => goodX (fun _ => rfl) J g) hr (by decide) (pe_lamL (N := ["_law_ke", "_law_table", "_law_first_here", "_law_past", "_law_prices"]) (fr := ["_law_table", "_law_first_here", "_law_past", "_law_prices"]) (js := [1, 9, 10, 6]) (x := "_law_ke") (k := 7) (P := P) (w := w) (K := K) (mg := mg) (base := base) rfl rfl rfl rfl rfl TB rfl rfl (show ndefB (defScope (top 81)) _ _ = true by decide +kernel) rfl (nscope_by (by decide +kernel)) (fun _ _ _ _ _ us hl => match us, hl with | [_], _ => rfl)
        (fun c' f A outer s H E hr tk => (pe_cx c_page_cost hr (by decide) tk (pa_cons (pv 1) (pa_cons (pv 2) (pa_cons (pv 3) (pa_cons (pv 4) pa_nil)))))))) (pe_cx c__law_first hr (by decide) tk (pa_cons (pe_lst (pa_cons (pv 2) (pa_cons (pe_ifExp (pt_val (pv 13)) pe_str pe_str) (pa_cons (pv 7) pa_nil)))) pa_nil)) (nomark _))
      (pss_one (ps_ret pe_bl))
      pss_nil)
      (pss_cons (ps_set (i := 14) nd rfl (Or.inr rfl) (pe_cx c__law_first hr (by decide) tk (pa_cons (pe_lst (pa_cons (pv 2) (pa_cons (pe_ifExp (pt_val (pe_cx c__law_is_number hr (by decide) tk (pa_cons (pv 11) (pa_cons pe_int (pa_cons (pe_op op_sub (pv 5) pe_int) pa_nil))))) pe_str pe_str) (pa_cons (pv 12) pa_nil)))) pa_nil)))
      (pss_cons (ps_set (i := 15) nd rfl (Or.inl rfl) (pe_lst (pa_cons (pe_lamL (N := ["_law_kf", "_law_table", "_law_place", "_law_wide"]) (fr := ["_law_table", "_law_place", "_law_wide"]) (js := [1, 11, 8]) (x := "_law_kf") (k := 7) (P := P) (w := w) (K := K) (mg := mg) (base := base) rfl rfl rfl rfl rfl TB rfl rfl (show ndefB (defScope (top 81)) _ _ = true by decide +kernel) rfl (nscope_by (by decide +kernel)) (fun _ _ _ _ _ us hl => match us, hl with | [_], _ => rfl)
        (fun c' f A outer s H E hr tk => (pe_cx c_thin hr (by decide) tk (pa_cons (pv 1) (pa_cons (pv 2) (pa_cons (pv 3) pa_nil)))))) (pa_cons (pe_lamL (N := ["_law_kg", "_law_table", "_law_place", "_law_wide"]) (fr := ["_law_table", "_law_place", "_law_wide"]) (js := [1, 11, 8]) (x := "_law_kg") (k := 7) (P := P) (w := w) (K := K) (mg := mg) (base := base) rfl rfl rfl rfl rfl TB rfl rfl (show ndefB (defScope (top 81)) _ _ = true by decide +kernel) rfl (nscope_by (by decide +kernel)) (fun _ _ _ _ _ us hl => match us, hl with | [_], _ => rfl)
        (fun c' f A outer s H E hr tk => (pe_cx c_fewest_thinned hr (by decide) tk (pa_cons (pv 1) (pa_cons (pv 2) (pa_cons (pv 3) pa_nil)))))) pa_nil))))
      (pss_cons (ps_set (i := 15) nd rfl (Or.inl rfl) (pe_op op_cat (pv 15) (pe_lst (pa_cons (pe_lamL (N := ["_law_kh", "_law_table", "_law_place", "_law_wide"]) (fr := ["_law_table", "_law_place", "_law_wide"]) (js := [1, 11, 8]) (x := "_law_kh") (k := 7) (P := P) (w := w) (K := K) (mg := mg) (base := base) rfl rfl rfl rfl rfl TB rfl rfl (show ndefB (defScope (top 81)) _ _ = true by decide +kernel) rfl (nscope_by (by decide +kernel)) (fun _ _ _ _ _ us hl => match us, hl with | [_], _ => rfl)
        (fun c' f A outer s H E hr tk => (pe_cx c_most_thinned hr (by decide) tk (pa_cons (pv 1) (pa_cons (pv 2) (pa_cons (pv 3) pa_nil)))))) (pa_cons (pe_lamL (N := ["_law_ki", "_law_table", "_law_place", "_law_wide"]) (fr := ["_law_table", "_law_place", "_law_wide"]) (js := [1, 11, 8]) (x := "_law_ki") (k := 7) (P := P) (w := w) (K := K) (mg := mg) (base := base) rfl rfl rfl rfl rfl TB rfl rfl (show ndefB (defScope (top 81)) _ _ = true by decide +kernel) rfl (nscope_by (by decide +kernel)) (fun _ _ _ _ _ us hl => match us, hl with | [_], _ => rfl)
        (fun c' f A outer s H E hr tk => (pe_cx c_count_thinned hr (by decide) tk (pa_cons (pv 1) (pa_cons (pv 2) (pa_cons (pv 3) pa_nil)))))) pa_nil)))))
      (pss_one (ps_ret (pe_callB (crK_all (K := K) rfl rfl) (by rfl) T.all bi_all (pa_cons (pe_lcS (own := [("_law_call", 16)]) rfl nd (piK_sq (K := K) rfl (pe_op op_cat (pv 15) (pe_lst (pa_cons (pe_lamL (N := ["_law_kj", "_law_table", "_law_place", "_law_wide"]) (fr := ["_law_table", "_law_place", "_law_wide"]) (js := [1, 11, 8]) (x := "_law_kj") (k := 7) (P := P) (w := w) (K := K) (mg := mg) (base := base) rfl rfl rfl rfl rfl TB rfl rfl (show ndefB (defScope (top 81)) _ _ = true by decide +kernel) rfl (nscope_by (by decide +kernel)) (fun _ _ _ _ _ us hl => match us, hl with | [_], _ => rfl)
        (fun c' f A outer s H E hr tk => (pe_mxE c_Thinned_shows cl_Thinned hr (by decide) tk (pe_mkThinned c_Thinned rfl rfl hr (by decide) (pa_cons (pe_tup pa_nil) (pa_cons (pe_dnewN (P := P) (w := w)) pa_nil))) (pa_cons (pv 1) (pa_cons (pv 2) (pa_cons (pv 3) pa_nil)))))) pa_nil)))) (blkOk_by (own := [("_law_call", 16)]) (N := N__law_tables_right) (sc := defScope (top 81)) (by decide +kernel)) (fun _ _ _ _ _ => (pg_name (i := 16) nd rfl (Or.inl rfl))) (fun _ _ _ _ _ => pts_nil) (fun pins τ s H C cl fp I hfp => (pe_cmpR op_eq (pe_word (P := P) (w := w) (K := K) (mg := mg) (base := base) rfl rfl rfl rfl rfl W.1 W.2.1 W.2.2 (fun _ _ _ _ _ _ _ J g => goodBlk (fun _ => rfl) I hfp J g) hr (by decide) (pv 16)) (pv 14) (nomark _)))) pa_nil))))))))))))))))), ?_⟩)
  · obtain ⟨_, _, _, _, _, _, _, _, rfl, _⟩ := h
    rfl
  · obtain ⟨d, sc0, l, tv, wh, ts, R, wd, rfl, hd, hT, hne, hl, hp, S, tab, q⟩ := h
    clear tk pn nd hr
    generalize cxOf (L2.CX P w) P w K mg base N__law_tables_right "_law_tables_right" (defScope (top 81)) f (.ref c) A outer s H E = X
    have hw : wd = (R.getD 0 []).length := (S.row _ (getD_mem (show 0 < R.length from S.pos))).1.symm
    obtain ⟨t0, ht0, hr0⟩ := rowAtI hp (i := 0) (by decide) (by have := S.pos; omega)
    have lR : (ts.map V.ref).length = R.length := by rw [List.length_map, hp.length]
    have lr0 : ((R.getD 0 []).map V.int).length = wd := by rw [List.length_map, hw]
    walk_at "st"
    walk_at "r0"
    refine len_le' hl lR (ix_l hl ht0 (len_te' hr0 lr0 (ix_l hl ht0 (len_te' hr0 lr0 ⟨d, sc0, wd, rfl, hd, S.w1, S.w4, fun pv H1 gp x1 d1 => ⟨by decide, fun p hp1 => un3s upd_same ?_⟩⟩))))
    have D2 : DS K a sc0 d T0 H pv wd (prW H1 pv wd) H1 := ⟨x1, d1, tabs_x hT hd x1, gp, rfl⟩
    have D3 := D2.same (same_new (o := .tup [.int (R.length : Nat), .int (wd : Nat), pv]) (Same.refl H1) hp1)
    clear hp ht0 hr0 lR lr0 D2 x1 d1
    generalize prW H1 pv wd = cost at D3
    generalize upd H1 p (.tup [.int (R.length : Nat), .int (wd : Nat), pv]) = H2 at D3 ⊢
    generalize hB : tSeq (tAsg (tIf (tB (tCallS (spNum a.CT) _ _)) _ _) (gName 12)) _ = B
    have rest : ∀ (H' : Hp) (wide first past place : V), DS K a sc0 d T0 H pv wd cost H' → Smp wide → Smp first → Smp past → Tg a.CT H' place →
        B { nx := fun x H' => Q V.non H', rt := Q } [some (.ref d), some tv, some (.str wh), some (.ref l), some (.int (R.length : Nat)), some (.int (wd : Nat)), some pv, some (.str cost), some wide, some first, some past, some place, none, none, none, none, none] H' := by
      subst hB
      intro H3 wide first past place D3 sw sf sp gpl
      clear gp
      have tab3 : TabV a H3 tv R wh := tab.elim (fun z => .inl ⟨z.1, z.2.x hd D3.x⟩) fun z => .inr ⟨z.1, tb_x z.2 hd D3.x⟩
      have C3 : CS T0 H3 H3 := ⟨ExtN.refl H3, D3.t⟩
      have gp3 := D3.gp
      have c3 := D3.c
      walk_at "st"
      walk_at "r0"
      generalize hB : tSeq (tIfS _ _ _) _ = B
      have rest : ∀ size, size = okW (isNum wide 1 R.length) "index" → B { nx := fun x H' => Q V.non H', rt := Q } [some (.ref d), some tv, some (.str wh), some (.ref l), some (.int (R.length : Nat)), some (.int (wd : Nat)), some pv, some (.str cost), some wide, some first, some past, some place, some (.str size), none, none, none, none] H3 := by
        subst hB
        intro size hsz
        walk_at "st"
        walk_at "r0"
        refine word_lam C3.t fun H4 e4 n4 T4 => ⟨tv, rfl, wide, rfl, pv, rfl, out_sl (tab3.ext e4) S sw.tg (tgP_ext gp3 e4) fun H5 e5 => ?_⟩
        have C5 := (C3.ext e4 T4).same e5
        rw [← hsz, prW_ext gp3.1 e4, c3]
        have lays : Lay size := hsz ▸ lay_index.okW
        have layc : Lay cost := c3 ▸ lay_prW
        refine first_ne (ws := [wh, size, cost]) rfl (by decide) (by simp) (lay3 tab.lay lays layc) fun H6 e6 => ?_
        have C6 := C5.same e6
        clear e5 T4 n4 C5 e4 e6
        walk_at "st"
        walk_at "r0"
        refine word_lam C6.t fun H7 e7 _ T7 => ⟨tv, rfl, wide, rfl, pv, rfl, out_em (tab3.ext (C6.e.trans e7)) S sw.tg (tgP_ext gp3 (C6.e.trans e7)) fun H8 e8 => ?_⟩
        have C8 := (C6.ext e7 T7).same e8
        rw [← hsz, prW_ext gp3.1 (C6.e.trans e7), c3]
        refine first_ne (ws := [wh, size, cost]) rfl (by decide) (by simp) (lay3 tab.lay lays layc) fun H9 e9 => ?_
        have C9 := C8.same e9
        clear C8 e8 T7 e7 e9 C6
        walk_at "st"
        walk_at "r0"
        refine word_lam C9.t fun H7 e7 _ T7 => ⟨tv, rfl, pv, rfl, out_all (tab3.ext (C9.e.trans e7)) S (tgP_ext gp3 (C9.e.trans e7)) fun H8 e8 => ?_⟩
        have C8 := (C9.ext e7 T7).same e8
        rw [prW_ext gp3.1 (C9.e.trans e7), c3]
        refine first_ne (ws := [wh, cost]) rfl (by decide) (by simp) (lay2 tab.lay layc) fun H10 e10 => ?_
        have C10 := C8.same e10
        clear C8 e8 T7 e7 e10 C9
        refine word_lam C10.t fun H7 e7 _ T7 => ⟨tv, rfl, out_qu (tab3.ext (C10.e.trans e7)) S fun H8 e8 => ?_⟩
        have C8 := (C10.ext e7 T7).same e8
        refine cmp_ne tab.fw ?_
        clear e8 T7 e7 C10
        walk_at "st"
        walk_at "r0"
        generalize hB : tSeq (tIfS _ _ _) _ = B
        have rest : B { nx := fun x H' => Q V.non H', rt := Q } [some (.ref d), some tv, some (.str wh), some (.ref l), some (.int (R.length : Nat)), some (.int (wd : Nat)), some pv, some (.str cost), some wide, some first, some past, some place, some (.str size), some (.bl (pgB first past R.length)), none, none, none] H8 := by
          subst hB
          walk_at "st"
          walk_at "r0"
          refine word_lam C8.t fun H7 e7 _ T7 => ⟨tv, rfl, first, rfl, past, rfl, pv, rfl, out_page (tab3.ext (C8.e.trans e7)) S sf.tg sp.tg (tgP_ext gp3 (C8.e.trans e7)) fun H9 e9 => ?_⟩
          have C9 := (C8.ext e7 T7).same e9
          rw [prW_ext gp3.1 (C8.e.trans e7), c3]
          refine okW_ite (G := fun z => 3 ≤ sizeLine ∧ ∀ p, H9 p = none → spLf [.ref p] (upd H9 p (.lst [.str wh, .str z, .str cost])) _ _) ?_
          refine first_ne (ws := [wh, okW (pgB first past R.length) "index", cost]) rfl (by decide) (by simp) (lay3 tab.lay lay_index.okW layc) fun H10 e10 => ?_
          have C10 := C9.same e10
          clear C9 e9 T7 e7 e10 C8
          walk_at "st"
          generalize hB : tSeq (tAsg (tLst (tCons _ (tCons _ tNil))) (gName 15)) _ = B
          have rest : ∀ H11 due, CS T0 H3 H11 → due = firstW [wh, okW (isNum place 0 ((wd : Int) - 1)) "column", size] → B { nx := fun x H' => Q V.non H', rt := Q } [some (.ref d), some tv, some (.str wh), some (.ref l), some (.int (R.length : Nat)), some (.int (wd : Nat)), some pv, some (.str cost), some wide, some first, some past, some place, some (.str size), some (.bl (pgB first past R.length)), some (.str due), none, none] H11 := by
            subst hB
            intro H11 due C11 hdue
            walk_at "st"
            walk_at "r0"
            have pre : ∀ (H' : Hp) (Q' : VK) (ok : Prop), CS T0 H3 H' → (∀ H2, Same H' H2 → Q' (.str due) H2) → ((∀ H2, Same H' H2 → Q' (.str "none") H2) → ok) → PreT a H' (wordE a Q') tv place wide ok := fun H' Q' ok C q' k =>
              out_pre (tab3.ext C.e) S (tg_ext gpl C.e) sw.tg (by rw [← hsz, ← hdue]; exact q') k
            refine ⟨C11.t, fun f1 H12 e12 _ T12 _ L1 => ?_⟩
            have G1 := LamS.due (a := a) (T0 := T0) (H0 := H3) (due := due) (ws := [some tv, some place, some wide]) L1 fun H' Q' C q' => ⟨tv, rfl, place, rfl, wide, rfl, tv, place, wide, rfl, pre H' Q' _ C q' fun k z H2 e => k H2 e⟩
            have C12 := C11.ext e12 T12
            refine ⟨C12.t, fun f2 H13 e13 _ T13 _ L2 => ?_⟩
            have G2 := LamS.due (a := a) (T0 := T0) (H0 := H3) (due := due) (ws := [some tv, some place, some wide]) L2 fun H' Q' C q' => ⟨tv, rfl, place, rfl, wide, rfl, tv, place, wide, rfl, pre H' Q' _ C q' fun k z H2 e => k H2 e⟩
            have C13 := C12.ext e13 T13
            refine ⟨by decide, fun p1 hp1 => ?_⟩
            have E13 := ExtN.of (same_new (o := .lst [.ref f1, .ref f2]) (Same.refl H13) hp1)
            have C14 := C13.same (same_new (o := .lst [.ref f1, .ref f2]) (Same.refl H13) hp1)
            have hl14 : upd H13 p1 (.lst [.ref f1, .ref f2]) p1 = some (.lst [.ref f1, .ref f2]) := upd_same
            have G1' := (G1.ext e13).ext E13
            have G2' := G2.ext E13
            clear G1 G2 L1 L2 C13 C12 e12 e13 T12 T13
            generalize upd H13 p1 (.lst [.ref f1, .ref f2]) = H14 at C14 hl14 G1' G2' ⊢
            walk_at "st"
            walk_at "r0"
            refine ⟨C14.t, fun f3 H15 e15 _ T15 _ L3 => ?_⟩
            have G3 := LamS.due (a := a) (T0 := T0) (H0 := H3) (due := due) (ws := [some tv, some place, some wide]) L3 fun H' Q' C q' => ⟨tv, rfl, place, rfl, wide, rfl, tv, place, wide, rfl, pre H' Q' _ C q' fun k R pi mi H2 _ _ _ e => k H2 e⟩
            have C15 := C14.ext e15 T15
            refine ⟨C15.t, fun f4 H16 e16 _ T16 _ L4 => ?_⟩
            have G4 := LamS.due (a := a) (T0 := T0) (H0 := H3) (due := due) (ws := [some tv, some place, some wide]) L4 fun H' Q' C q' => ⟨tv, rfl, place, rfl, wide, rfl, tv, place, wide, rfl, pre H' Q' _ C q' fun k z H2 e => k H2 e⟩
            have C16 := C15.ext e16 T16
            refine ⟨by decide, fun p2 hp2 => ?_⟩
            refine ⟨p1, p2, _, _, rfl, rfl, (same_new (Same.refl H16) hp2) _ _ (e16 _ _ (e15 _ _ hl14 fun _ => nofun) fun _ => nofun), upd_same, by show 4 ≤ sizeLine; decide, fun p3 hp3 => ?_⟩
            have S17 := (same_new (o := .lst [.ref f3, .ref f4]) (Same.refl H16) hp2).trans (same_new (o := .lst ([.ref f1, .ref f2] ++ [.ref f3, .ref f4])) (Same.refl _) hp3)
            have hl17 : upd (upd H16 p2 (.lst [.ref f3, .ref f4])) p3 (.lst ([.ref f1, .ref f2] ++ [.ref f3, .ref f4])) p3 = some (.lst [.ref f1, .ref f2, .ref f3, .ref f4]) := upd_same
            generalize upd (upd H16 p2 (.lst [.ref f3, .ref f4])) p3 (.lst ([.ref f1, .ref f2] ++ [.ref f3, .ref f4])) = H17 at S17 hl17 ⊢
            have C17 := C16.same S17
            have E17 := ExtN.of S17
            have G1 := ((G1'.ext e15).ext e16).ext E17
            have G2 := ((G2'.ext e15).ext e16).ext E17
            have G3' := (G3.ext e16).ext E17
            have G4' := G4.ext E17
            clear G1' G2' G3 G4 L3 L4 C16 C15 e15 e16 T15 T16 hl14 C14 S17 E17
            walk_at "r0"
            walk_at "lp"
            walk_at "r0"
            refine ⟨C17.t, fun f5 H18 e18 _ T18 _ L5 => ?_⟩
            have G5 := LamS.due (a := a) (T0 := T0) (H0 := H3) (due := due) (ws := [some tv, some place, some wide]) L5 fun H' Q' C q' => ?_
            · have C18 := C17.ext e18 T18
              refine ⟨by decide, fun p4 hp4 => ⟨p3, p4, _, _, rfl, rfl, same_new (Same.refl H18) hp4 _ _ (e18 _ _ hl17 fun _ => nofun), upd_same, by show 5 ≤ sizeLine; decide, fun p5 hp5 => ?_⟩⟩
              have S19 := (same_new (o := .lst [.ref f5]) (Same.refl H18) hp4).trans (same_new (o := .lst ([.ref f1, .ref f2, .ref f3, .ref f4] ++ [.ref f5])) (Same.refl _) hp5)
              have hl19 : upd (upd H18 p4 (.lst [.ref f5])) p5 (.lst ([.ref f1, .ref f2, .ref f3, .ref f4] ++ [.ref f5])) p5 = some (.lst [.ref f1, .ref f2, .ref f3, .ref f4, .ref f5]) := upd_same
              generalize upd (upd H18 p4 (.lst [.ref f5])) p5 (.lst ([.ref f1, .ref f2, .ref f3, .ref f4] ++ [.ref f5])) = H19 at S19 hl19 ⊢
              have C19 := C18.same S19
              have E19 := ExtN.of S19
              have all : ∀ x ∈ ([.ref f1, .ref f2, .ref f3, .ref f4, .ref f5] : List V), ∃ f, x = .ref f ∧ LamS P w K mg base X [1, 11, 8] [some tv, some place, some wide] H19 f (DueAt a T0 H3 due) := by
                intro x hx
                simp only [List.mem_cons, List.not_mem_nil, or_false] at hx
                rcases hx with rfl | rfl | rfl | rfl | rfl
                · exact ⟨_, rfl, (G1.ext e18).ext E19⟩
                · exact ⟨_, rfl, (G2.ext e18).ext E19⟩
                · exact ⟨_, rfl, (G3'.ext e18).ext E19⟩
                · exact ⟨_, rfl, (G4'.ext e18).ext E19⟩
                · exact ⟨_, rfl, G5.ext E19⟩
              clear G1 G2 G3' G4' G5 C17 C18 e18 T18 S19 E19 hl17 L5
              refine ⟨p5, rfl, true, _, sqA_l hl19, fun D1 hD1 => ?_⟩
              refine lcA (fun _ => .bl true) hD1 (by show 5 ≤ 100000; decide) (fun H' e => sqA_l (e _ _ hl19)) (fun i v H20 H21 acc Nx hi e20 ha y k => ?_) (fun H20 e20 h20 => ?_)
              · simp only [yV] at y
                obtain ⟨rfl, rfl⟩ := y
                obtain ⟨fc, hfc, L⟩ := all _ (getD_mem (d := V.non) hi)
                refine ⟨_, rfl, fc, _, hfc, (L.ext (ExtN.of e20)) _ rfl, C19.same e20, _, rfl, rfl, fun H22 e22 => ⟨rfl, ?_⟩⟩
                rw [decide_eq_true rfl]
                exact k H22 e22
              · refine all_l (bs := (List.range 5).map fun _ => true) (by rw [h20]; rfl) ?_
                have C20 := C19.same e20
                rw [show ((List.range 5).map fun _ => true).all id = true from rfl]
                exact q H20 ((SameT.ofX D3.x).trans (SameT.ofE C20.e)) (D3.d.ext C20.e) C20.t
            · show tMeth a.CTh "shows" (spSh a K) [] (wordE a Q') (tThin P w a.CTh (tCons (tTup tNil) (tCons (tDNewN P w) tNil))) (tCons (tVar 1) (tCons (tVar 2) (tCons (tVar 3) tNil))) [some (.int 0), some tv, some place, some wide] H' (fun _ H' => Q' (.str "none") H')
              refine ⟨Nat.zero_le _, fun pk hpk => ?_⟩
              intro pd Hn hpd e2 _ hdn
              refine ⟨pk, pd, [], [], rfl, .inr (e2 _ _ upd_same), hdn, List.nodup_nil, fun vx Hm e3 th => ?_⟩
              obtain ⟨x, dx, kt, fl, rfl, hx, hkt⟩ := th
              have s3 : Same H' Hm := fun b o hb => e3 b o (e2 b o (same_new (Same.refl H') hpk b o hb))
              exact ⟨x, dx, _, rfl, hx, rfl, tv, rfl, place, rfl, wide, rfl, .ref x, tv, place, wide, rfl, ⟨x, dx, kt, fl, rfl, hx, hkt⟩, pre Hm Q' _ (C.same s3) (fun H4 e4 => q' H4 (s3.trans e4)) fun k H4 e => k H4 e⟩
          clear hB
          walk_at "r0"
          refine ⟨place, 0, _, rfl, tg_ext gpl C10.e, ?_⟩
          walk_at "ex"
          refine okW_ite (G := fun z => 3 ≤ sizeLine ∧ ∀ p, H10 p = none → spLf [.ref p] (upd H10 p (.lst [.str wh, .str z, .str size])) _ _) ?_
          refine ⟨by decide, fun p11 hp11 => ⟨p11, [wh, okW (isNum place 0 ((wd : Int) - 1)) "column", size], rfl, upd_same, by simp, lay3 tab.lay lay_column.okW lays, fun H11 e11 => ?_⟩⟩
          exact rest H11 _ ((C10.same (same_new (Same.refl H10) hp11)).same e11) rfl
        clear hB
        have pg : pgB first past R.length = (isNum first 0 ((R.length : Int) - 1) && (match first with | .int i => isNum past (i + 1) R.length | _ => false)) := by
          cases first <;> rfl
        refine ⟨first, 0, _, rfl, sf.tg, _, rfl, ?_⟩
        cases h1 : isNum first 0 ((R.length : Int) - 1) with
        | false =>
          rw [if_neg (by decide)]
          rw [pg, h1] at rest
          exact rest
        | true =>
          rw [if_pos rfl]
          obtain ⟨i, rfl, _, _⟩ := isNum_of h1
          rw [pg, h1] at rest
          exact ⟨i, rfl, past, _, _, rfl, sp.tg, rest⟩
      clear hB
      refine ⟨wide, 1, _, rfl, sw.tg, ?_⟩
      walk_at "ex"
      cases hq : isNum wide 1 R.length with
      | true => exact rest _ (by rw [hq]; rfl)
      | false => exact rest _ (by rw [hq]; rfl)
    clear hB
    walk_at "st"
    walk_at "r0"
    refine ⟨pv, wd, rfl, D3.gp, fun H3 e3 => ⟨by decide, fun p3 hp3 => ?_⟩⟩
    rw [D3.c]
    have D4 := D3.same e3
    refine pick_smp (D4.same (same_new (Same.refl H3) hp3)).d upd_same (Nat.succ_pos _) (fun x hx => by
      simp only [List.mem_cons, List.not_mem_nil, or_false] at hx
      rcases hx with rfl | rfl | rfl | rfl | rfl | rfl | rfl <;> constructor) (D4.d.nw hp3) fun wide H5 sw x5 d5 => ⟨by decide, fun p5 hp5 => un2s upd_same ?_⟩
    have D5 := ((D4.same (same_new (Same.refl H3) hp3)).xx x5 d5).same (same_new (o := .tup [.str cost, wide]) (Same.refl H5) hp5)
    generalize upd H5 p5 (.tup [.str cost, wide]) = H6 at D5 ⊢
    walk_at "st"
    walk_at "r0"
    refine ⟨by decide, fun p6 hp6 => ?_⟩
    refine pick_smp (D5.same (same_new (Same.refl H6) hp6)).d upd_same (Nat.succ_pos _) (fun x hx => by
      simp only [List.mem_cons, List.not_mem_nil, or_false] at hx
      rcases hx with rfl | rfl | rfl | rfl | rfl <;> constructor) (D5.d.nw hp6) fun first H7 sf x7 d7 => ⟨by decide, fun p7 hp7 => ?_⟩
    have D7 := (D5.same (same_new (Same.refl H6) hp6)).xx x7 d7
    refine pick_smp (D7.same (same_new (Same.refl H7) hp7)).d upd_same (Nat.succ_pos _) (fun x hx => by
      simp only [List.mem_cons, List.not_mem_nil, or_false] at hx
      rcases hx with rfl | rfl | rfl | rfl | rfl <;> constructor) (D7.d.nw hp7) fun past H8 sp x8 d8 => ⟨by decide, fun p8 hp8 => un2s upd_same ?_⟩
    have D8 := ((D7.same (same_new (Same.refl H7) hp7)).xx x8 d8).same (same_new (o := .tup [first, past]) (Same.refl H8) hp8)
    generalize upd H8 p8 (.tup [first, past]) = H9 at D8 ⊢
    walk_at "st"
    walk_at "r0"
    refine ⟨d, sc0, 2, rfl, D8.d, by decide, fun r10 H10 x10 d10 a10 b10 => ⟨rfl, _, rfl, ?_⟩⟩
    have D10 := D8.xx x10 d10
    split
    · exact ⟨d, sc0, rfl, d10, fun v H11 o x11 d11 => rest H11 wide first past v (D10.xx x11 d11) sw sf sp o.tgP.1⟩
    · exact ⟨d, sc0, _, rfl, d10, by omega, fun r H11 x11 d11 _ _ => rest H11 wide first past (.int r) (D10.xx x11 d11) sw sf sp (.int r)⟩
end
end G


set_option Elab.async false
set_option linter.all false
set_option maxRecDepth 100000
set_option maxHeartbeats 4000000
set_option pp.deepTerms true
set_option pp.maxSteps 100000
set_option format.width 230
namespace G
open PySem PySem.Spec PyProof.Rows L2
local macro_rules | `(tactic| walk_at "rd") => `(tactic| try simp only [cxOf_K, tSeq, tIfS, tTest, tB, tCB, tCons, tNil, tC, tVar, tOp, tUn, tAndV, tOrV, tNotV, tAnd, tOr, tNot, tIf, tChain, tRet, tRetN, tAsg, gName, tDrop, tNext, tCallS, WE, rI0, rI, rU, L2.start, tYes, tLc, tFor, gTup, gCons, gNil, tPar, tPar3, tAug, ipI, tWidth, tCall, tMeth, tMake, tFld, tRows, tTable, sFld, rMulT, rSumT, gSub, tBM, rAppend, rSetL, rExtend, rSlL, rSlQ, tCol, Int.toNat_natCast,  tSl, tNoPart, tPart, tTup, tLst, tNever, itu_g, sDPut, tDNewK, tDNewN, tDispN, rSetN, rIxN, rInN, tGetN, rGetN, iKN, iIN, iRg3, iRng3, rGetL, tAugS, tNo, rCopyN, rRep,
  List.map_cons, List.map_nil, List.length_cons, List.length_nil, List.cons_append, List.nil_append, List.replicate, Nat.reduceAdd, Nat.reduceSub, Nat.zero_add, Nat.sub_self,
  List.getElem?_cons_zero, List.getElem?_cons_succ, List.set_cons_zero, List.set_cons_succ, wipe, Option.some.injEq, exists_eq_left', exists_eq_left, V.bl.injEq, V.int.injEq, ref_inj, ty_inj, if_true, if_false, Bool.false_eq_true, Bool.true_eq_false, exists_const, exists_and_left, true_and, and_true, List.cons.injEq,
  isB_int, isB_bool, isB_tuple, isB_list, isT_at, iSq, iRg1, iRg2, iZ2, iZ3, iEn])
local macro_rules | `(tactic| walk_at "r1") => `(tactic| try simp only [cxOf_K, tSeq, tIfS, tTest, tB, tCB, tCons, tNil, tC, tVar, tOp, tUn, tAndV, tOrV, tNotV, tAnd, tOr, tNot, tIf, tChain, tRet, tRetN, tAsg, gName, tDrop, tNext, tCallS, WE, rI0, rI, rU, L2.start, tYes, gTup, gCons, gNil, tPar, tPar3, tAug, ipI, tWidth, tCall, tMeth, tMake, tFld, tRows, tTable, sFld, rMulT, rSumT, gSub, tBM, rAppend, rSetL, rExtend, rSlL, rSlQ, tCol, Int.toNat_natCast,  tSl, tNoPart, tPart, tTup, tLst, tNever, itu_g, sDPut, tDNewK, tDNewN, tDispN, rSetN, rIxN, rInN, tGetN, rGetN, iKN, iIN, iRg3, iRng3, rGetL, tAugS, tNo, rCopyN, rRep,
  List.map_cons, List.map_nil, List.length_cons, List.length_nil, List.cons_append, List.nil_append, List.replicate, Nat.reduceAdd, Nat.reduceSub, Nat.zero_add, Nat.sub_self,
  List.getElem?_cons_zero, List.getElem?_cons_succ, List.set_cons_zero, List.set_cons_succ, wipe, Option.some.injEq, exists_eq_left', exists_eq_left, V.bl.injEq, V.int.injEq, ref_inj, ty_inj, if_true, if_false, Bool.false_eq_true, Bool.true_eq_false, exists_const, exists_and_left, true_and, and_true, List.cons.injEq,
  isB_int, isB_bool, isB_tuple, isB_list, isT_at, iSq, iRg1, iRg2, iZ2, iZ3, iEn])
local macro_rules | `(tactic| walk_at "r0") => `(tactic| try simp only [cxOf_K, tIfS, tTest, tB, tCB, tCons, tNil, tC, tVar, tOp, tUn, tAndV, tOrV, tNotV, tAnd, tOr, tNot, tIf, tChain, tRet, tRetN, tAsg, gName, tDrop, tNext, tCallS, WE, rI0, rI, rU, L2.start, tYes, gTup, gCons, gNil, tPar, tPar3, tAug, ipI, tWidth, tCall, tMeth, tMake, tFld, tRows, tTable, sFld, rMulT, rSumT, gSub, tBM, rAppend, rSetL, rExtend, rSlL, rSlQ, tCol, Int.toNat_natCast,  tSl, tNoPart, tPart, tTup, tLst, tNever, itu_g, sDPut, tDNewK, tDNewN, tDispN, rSetN, rIxN, rInN, tGetN, rGetN, iKN, iIN, iRg3, iRng3, rGetL, tAugS, tNo, rCopyN, rRep,
  List.map_cons, List.map_nil, List.length_cons, List.length_nil, List.cons_append, List.nil_append, List.replicate, Nat.reduceAdd, Nat.reduceSub, Nat.zero_add, Nat.sub_self,
  List.getElem?_cons_zero, List.getElem?_cons_succ, List.set_cons_zero, List.set_cons_succ, wipe, Option.some.injEq, exists_eq_left', exists_eq_left, V.bl.injEq, V.int.injEq, ref_inj, ty_inj, if_true, if_false, Bool.false_eq_true, Bool.true_eq_false, exists_const, exists_and_left, true_and, and_true, List.cons.injEq,
  isB_int, isB_bool, isB_tuple, isB_list, isT_at, iSq, iRg1, iRg2, iZ2, iZ3, iEn])
local macro_rules | `(tactic| walk_at "st") => `(tactic| ((try dsimp only); rw [tSeq_def]))
local macro_rules | `(tactic| walk_at "lp") => `(tactic| first | rw [tFor_def] | rw [tLc_def] | rw [tWhile_def])
local macro_rules | `(tactic| walk_at "ex") => `(tactic| simp only [List.cons.injEq, and_true, true_and, and_assoc, exists_and_left, exists_eq_left', exists_eq_left, exists_eq_right, exists_const, V.int.injEq, V.bl.injEq, ref_inj, Bool.not_true, Bool.not_false, Bool.false_eq_true, if_true, if_false, Bool.true_eq_false])
section
variable {P : Program} {w : World} {K : PySem.W.Frag} {mg : Str → Option Value} {base : Heap} {a : Ad}
open LamX NdefX
/-! ### what the law's pieces are -/
/-- a step that leaves the draw a draw -/
structure Mv (K : PySem.W.Frag) (sc0 d : Addr) (H H' : Hp) : Prop where
  x : SameT d H H'
  dr : DrawAt K sc0 H d
  dr' : DrawAt K sc0 H' d
section
variable {a : Ad} {CT sc0 d : Addr} {H H' : Hp} {v : V} {R : List (List Int)}
theorem Mv.ofX (e : SameX d H H') (h : DrawAt K sc0 H d) (h' : DrawAt K sc0 H' d) : Mv K sc0 d H H' := ⟨.ofX e, h, h'⟩
theorem Mv.ofS (e : Same H H') (h : DrawAt K sc0 H d) : Mv K sc0 d H H' := ⟨.ofE (ExtN.of e), h, h.same e⟩
theorem Mv.ofE (e : ExtN H H') (h : DrawAt K sc0 H d) : Mv K sc0 d H H' := ⟨.ofE e, h, h.ext e⟩
theorem Mv.tg (m : Mv K sc0 d H H') (g : Tg CT H v) : Tg CT H' v := by
  cases g with
  | non => exact .non
  | bl b => exact .bl b
  | int i => exact .int i
  | str s => exact .str s
  | lst h =>
    rename_i b xs
    by_cases hb : b = d
    · subst hb
      obtain ⟨i, h1, _⟩ := m.dr'
      exact .lst h1
    · exact .lst (m.x _ _ h hb fun _ => nofun)
  | tup h => exact .tup (m.x _ _ h (m.dr.ne h fun _ _ => nofun) fun _ => nofun)
  | dK h => exact .dK (m.x _ _ h (m.dr.ne h fun _ _ => nofun) fun _ => nofun)
  | tab h => exact .tab (m.x _ _ h (m.dr.ne h fun _ _ => nofun) fun _ => nofun)
theorem Mv.isB (m : Mv K sc0 d H H') (g : Tg CT H v) (S : String) : G.isB H' v S = G.isB H v S := by
  cases g with
  | non => rfl
  | bl b => rfl
  | int i => rfl
  | str s => rfl
  | lst h =>
    rename_i b xs
    by_cases hb : b = d
    · subst hb
      obtain ⟨i, h1, _⟩ := m.dr'
      unfold G.isB; simp only [h, h1]
    · unfold G.isB; simp only [h, m.x _ _ h hb fun _ => nofun]
  | tup h => unfold G.isB; simp only [h, m.x _ _ h (m.dr.ne h fun _ _ => nofun) fun _ => nofun]
  | dK h => unfold G.isB; simp only [h, m.x _ _ h (m.dr.ne h fun _ _ => nofun) fun _ => nofun]
  | tab h => unfold G.isB; simp only [h, m.x _ _ h (m.dr.ne h fun _ _ => nofun) fun _ => nofun]
theorem Mv.isT (m : Mv K sc0 d H H') (g : Tg CT H v) : G.isT CT H' v = G.isT CT H v := by
  cases g with
  | non => rfl
  | bl b => rfl
  | int i => rfl
  | str s => rfl
  | lst h =>
    rename_i b xs
    by_cases hb : b = d
    · subst hb
      obtain ⟨i, h1, _⟩ := m.dr'
      unfold G.isT; simp only [h, h1]
    · unfold G.isT; simp only [h, m.x _ _ h hb fun _ => nofun]
  | tup h => unfold G.isT; simp only [h, m.x _ _ h (m.dr.ne h fun _ _ => nofun) fun _ => nofun]
  | dK h => unfold G.isT; simp only [h, m.x _ _ h (m.dr.ne h fun _ _ => nofun) fun _ => nofun]
  | tab h => unfold G.isT; simp only [h, m.x _ _ h (m.dr.ne h fun _ _ => nofun) fun _ => nofun]
theorem Mv.tb (m : Mv K sc0 d H H') (t : Tb CT H v R) : Tb CT H' v R := by
  obtain ⟨b, dx, r, ts, rfl, h1, h2, h3⟩ := t
  have k : ∀ {b : Addr} {u : HO}, H b = some u → (∀ c vs, u ≠ .lst (.ref c :: vs)) → (∀ ps, u ≠ .tbl ps) → H' b = some u := fun h n t => m.x _ _ h (m.dr.ne h n) t
  exact ⟨b, dx, r, ts, rfl, k h1 (fun _ _ => nofun) fun _ => nofun, k h2 (fun _ _ => nofun) fun _ => nofun, Paired.imp2 h3 fun _ _ h => k h (fun _ _ => nofun) fun _ => nofun⟩
theorem Mv.as {l : Addr} {xs : List V} (m : Mv K sc0 d H H') (h : PcAs H l xs) (ne : l ≠ d) : PcAs H' l xs := h.elim (fun h => .inl (m.x _ _ h ne fun _ => nofun)) fun h => .inr (m.x _ _ h ne fun _ => nofun)
end
/-- an element whose kind is known -/
structure El (a : Ad) (H : Hp) (x : V) : Prop where
  tg : Tg a.CT H x
  sh : isT a.CT H x = true → ∃ R w', Tb a.CT H x R ∧ Shp R w'
theorem El.mv {a : Ad} {sc0 d : Addr} {H H' : Hp} {x : V} (e : El a H x) (m : Mv K sc0 d H H') : El a H' x := ⟨m.tg e.tg, fun h => by
  obtain ⟨R, w', t, S⟩ := e.sh (by rw [← m.isT e.tg]; exact h)
  exact ⟨R, w', m.tb t, S⟩⟩
/-- the pieces and the word that is due -/
inductive PcV (a : Ad) (d : Addr) (H : Hp) (one : V) (n wd : Nat) : V → (Str → Str) → Prop
  | no {v : V} (g : Tg a.CT H v) (h : (isB H v "list" || isB H v "tuple") = false) : PcV a d H one n wd v fun _ => "pieces None"
  | len {l : Addr} {xs : List V} (ne : l ≠ d) (hl : PcAs H l xs) (hn : xs.length = 0 ∨ 6 < xs.length) (hm : xs.length ≤ 10) : PcV a d H one n wd (.ref l) fun _ => "pieces None"
  | bad {l : Addr} {i : Nat} {y : V} {ys : List V} (ne : l ≠ d) (hl : PcAs H l (List.replicate i one ++ y :: ys)) (hn : i + ys.length < 6) (gy : El a H y) (hy : isT a.CT H y = false ∨ (0 < i ∧ ∃ R' w', Tb a.CT H y R' ∧ Shp R' w' ∧ w' ≠ wd)) (gs : ∀ x ∈ ys, El a H x) :
      PcV a d H one n wd (.ref l) fun _ => ("pieces " : Str) ++ toString (i : Int)
  | ok {l : Addr} {k : Nat} (ne : l ≠ d) (hl : PcAs H l (List.replicate k one)) (k1 : 1 ≤ k) (k6 : k ≤ 6) : PcV a d H one n wd (.ref l) fun cost => firstW [okW (!decide (10 < k * n)) "large", cost]
theorem PcV.mv {a : Ad} {sc0 d : Addr} {H H' : Hp} {one v : V} {n wd : Nat} {f : Str → Str} (p : PcV a d H one n wd v f) (m : Mv K sc0 d H H') : PcV a d H' one n wd v f := by
  cases p with
  | no g h => exact .no (m.tg g) (by rw [m.isB g, m.isB g]; exact h)
  | len ne hl hn hm => exact .len ne (m.as hl ne) hn hm
  | bad ne hl hn gy hy gs => exact .bad ne (m.as hl ne) hn (gy.mv m) (hy.elim (fun h => .inl (by rw [m.isT gy.tg]; exact h)) fun ⟨h, R', w', t, S, z⟩ => .inr ⟨h, R', w', m.tb t, S, z⟩) fun x hx => (gs x hx).mv m
  | ok ne hl k1 k6 => exact .ok ne (m.as hl ne) k1 k6
theorem PcV.tg {a : Ad} {d : Addr} {H : Hp} {one v : V} {n wd : Nat} {f : Str → Str} (p : PcV a d H one n wd v f) : Tg a.CT H v := by
  cases p with
  | no g h => exact g
  | len ne hl hn hm => exact hl.tg
  | bad ne hl hn gy hy gs => exact hl.tg
  | ok ne hl k1 k6 => exact hl.tg
theorem six : ∀ i : Nat, i < 6 → ("pieces " : Str).length + (toString (i : Int) : Str).length ≤ sizeLine ∧ (i : Int).natAbs.log2 < 1920 ∧ ("pieces " : Str) ++ toString (i : Int) ≠ "none" ∧ Lay (("pieces " : Str) ++ toString (i : Int)) := by
  unfold Lay
  decide +kernel
theorem pieces_none : ("pieces " : Str) ++ "None" = "pieces None" := by decide +kernel
theorem ne_pnone : ("pieces None" : Str) ≠ "none" := by decide +kernel
theorem lay_pnone : Lay "pieces None" := by unfold Lay; decide +kernel
theorem rzp_none {a : Ad} {H : Hp} {Q : VK} (q : ∀ H', Same H H' → Q (.str "pieces None") H') : RzP a (wordE a Q) H .non := fun H' d e h => ⟨_, .pieces h rfl (by decide +kernel), by rw [pieces_none]; exact q H' e⟩
theorem rzp_int {a : Ad} {H : Hp} {Q : VK} {i : Nat} (hi : i < 6) (q : ∀ H', Same H H' → Q (.str (("pieces " : Str) ++ toString (i : Int))) H') : RzP a (wordE a Q) H (.int (i : Nat)) := fun H' d e h => ⟨_, .pieces h (if_pos (six i hi).2.1) (six i hi).1, q H' e⟩
theorem out_pc {a : Ad} {d : Addr} {H : Hp} {one v p : V} {n wd : Nat} {f : Str → Str} {Q : VK} {ok : Addr → Nat → V → Nat → Nat → Prop} (pc : PcV a d H one n wd v f) (t : Tb a.CT H one (List.replicate n (List.replicate wd 0))) (S : Shp (List.replicate n (List.replicate wd 0)) wd) (gp : TgP a.CT H p)
    (q : ∀ H', Same H H' → Q (.str (f (prW H p wd))) H') (hok : (∀ H', Same H H' → Q (.str "none") H') → ∀ l k one n w, ok l k one n w) : PreP a H (wordE a Q) v p ok := by
  cases pc with
  | no g h => exact .no g h (rzp_none q)
  | len ne hl hn hm => exact .len rfl hl hn (rzp_none q)
  | bad ne hl hn gy hy gs =>
    rename_i l i y ys
    refine .bad rfl hl hn (fun _ => ⟨t, S⟩) gy.tg (hy.elim .inl fun ⟨h, R', w', t', S', z⟩ => .inr ⟨h, R', w', t', S', z⟩) (rzp_int (by omega) q)
  | ok ne hl k1 k6 =>
    rename_i l k
    refine .ok rfl hl k1 k6 t S gp (fun h => ?_) (fun h h2 => ?_) fun h h2 => ?_
    · rw [decide_eq_true h] at q
      exact rz_large q
    · rw [decide_eq_false (by omega)] at q
      exact pr_no h2 (ok_yes (b := true) rfl q)
    · rw [decide_eq_false (by omega)] at q
      exact hok (pr_yes h2 (ok_yes (b := true) rfl q)) _ _ _ _ _
/-! ### which pieces are bad -/
theorem kept_none {b : Nat → Bool} : ∀ {n : Nat}, (∀ j, j < n → b j = false) → kept b n = []
  | 0, _ => rfl
  | n + 1, h => by rw [kept_succ, kept_none fun j hj => h j (by omega), h n (by omega)]; rfl
theorem kept_head {b : Nat → Bool} {i : Nat} (h : ∀ j, j < i → b j = false) (hi : b i = true) : ∀ {n : Nat}, i < n → ∃ r, kept b n = i :: r
  | 0, z => absurd z (Nat.not_lt_zero _)
  | n + 1, z => by
    rw [kept_succ]
    by_cases hn : i < n
    · obtain ⟨r, e⟩ := kept_head h hi hn
      rw [e]
      exact ⟨r ++ _, rfl⟩
    · have e : i = n := by omega
      subst e
      rw [kept_none h, if_pos hi]
      exact ⟨[], rfl⟩
theorem getD_app {xs ys : List V} {y : V} {j : Nat} : (xs ++ y :: ys).getD j .non = if j < xs.length then xs.getD j .non else if j = xs.length then y else ys.getD (j - xs.length - 1) .non := by
  rw [List.getD_eq_getElem?_getD]
  by_cases h : j < xs.length
  · rw [if_pos h, List.getElem?_append_left h, List.getD_eq_getElem?_getD]
  · rw [if_neg h, List.getElem?_append_right (by omega)]
    by_cases h2 : j = xs.length
    · rw [if_pos h2, h2, Nat.sub_self]; rfl
    · rw [if_neg h2, List.getD_eq_getElem?_getD]
      obtain ⟨m, hm⟩ : ∃ m, j - xs.length = m + 1 := ⟨j - xs.length - 1, by omega⟩
      rw [hm]
      rfl
theorem getD_rep {x : V} {k j : Nat} (h : j < k) : (List.replicate k x).getD j .non = x := by
  rw [List.getD_eq_getElem?_getD, List.getElem?_replicate, if_pos h]; rfl
theorem rep_map {n : Nat} {z : Int} : List.replicate n (V.int z) = (List.replicate n z).map V.int := by rw [List.map_replicate]
theorem rows_rep {H : Hp} {r : Addr} {row : List Int} (h : RowAt H r row) : ∀ k : Nat, Paired (RowAt H) (List.replicate k r) (List.replicate k row)
  | 0 => .nil
  | k + 1 => .cons h (rows_rep h k)
theorem shp_zero {n wd : Nat} (h1 : 1 ≤ n) (h2 : n ≤ 10) (h3 : 1 ≤ wd) (h4 : wd ≤ 4) : Shp (List.replicate n (List.replicate wd (0 : Int))) wd :=
  ⟨by rw [List.length_replicate]; exact h1, by rw [List.length_replicate]; exact h2, h3, h4, fun r hr => by
    rw [(List.mem_replicate.mp hr).2]
    refine ⟨List.length_replicate, fun z hz => ?_⟩
    rw [(List.mem_replicate.mp hz).2]
    decide⟩
theorem el_int {a : Ad} {H : Hp} {i : Int} : El a H (.int i) := ⟨.int i, nofun⟩
theorem el_tb {a : Ad} {H : Hp} {v : V} {R : List (List Int)} {w : Nat} (t : Tb a.CT H v R) (S : Shp R w) : El a H v := ⟨t.tg, fun _ => ⟨R, w, t, S⟩⟩
theorem pcv_ints {a : Ad} {d : Addr} {H : Hp} {one : V} {n wd : Nat} {l : Addr} {ns : List Int} (ne : l ≠ d) (h : PcAs H l (ns.map V.int)) (h6 : ns.length ≤ 6) : ∃ f, PcV a d H one n wd (.ref l) f := by
  cases ns with
  | nil => exact ⟨_, .len ne h (.inl rfl) (Nat.zero_le _)⟩
  | cons z ns => exact ⟨_, .bad (i := 0) (y := .int z) (ys := ns.map V.int) ne h (by rw [List.length_map]; rw [List.length_cons] at h6; omega) el_int (.inl rfl) fun x hx => by
      obtain ⟨i, _, rfl⟩ := List.mem_map.mp hx
      exact el_int⟩
theorem pcv_odd {a : Ad} {sc0 d : Addr} {H : Hp} {one v : V} {n wd : Nat} (hd : DrawAt K sc0 H d) (o : Odd a.CT H v) : ∃ f, PcV a d H one n wd v f := by
  cases o with
  | non => exact ⟨_, .no .non rfl⟩
  | bl b => exact ⟨_, .no (.bl b) rfl⟩
  | int i => exact ⟨_, .no (.int i) rfl⟩
  | str s => exact ⟨_, .no (.str s) rfl⟩
  | lst h hn => exact pcv_ints (hd.ne h ints_no) (.inl h) hn
  | tup h h1 h2 => exact pcv_ints (hd.ne h fun _ _ => nofun) (.inr h) h2
  | tt h ht => exact ⟨_, .bad (i := 0) (y := .ref _) (ys := []) (hd.ne h fun _ _ => nofun) (.inr h) (by decide) ⟨.tup ht, fun z => by unfold isT at z; simp only [ht] at z; exact nomatch z⟩ (.inl (by unfold isT; simp only [ht])) nofun⟩
  | dK h => exact ⟨_, .no (.dK h) (by unfold isB; simp only [h]; rfl)⟩
def AllPc (a : Ad) (d : Addr) (one : V) (n wd : Nat) (H : Hp) (xs : List V) : Prop := ∀ x ∈ xs, ∃ f, PcV a d H one n wd x f
theorem AllPc.nil {a : Ad} {d : Addr} {one : V} {n wd : Nat} {H : Hp} : AllPc a d one n wd H [] := fun _ h => nomatch h
theorem AllPc.add {a : Ad} {d : Addr} {one v : V} {n wd : Nat} {H : Hp} {xs : List V} {f : Str → Str} (A : AllPc a d one n wd H xs) (p : PcV a d H one n wd v f) : AllPc a d one n wd H (xs ++ [v]) := fun x hx => by
  rcases List.mem_append.mp hx with hx | hx
  · exact A x hx
  · rw [List.mem_singleton.mp hx]
    exact ⟨f, p⟩
theorem AllPc.mv {a : Ad} {sc0 d : Addr} {one : V} {n wd : Nat} {H H' : Hp} {xs : List V} (A : AllPc a d one n wd H xs) (m : Mv K sc0 d H H') : AllPc a d one n wd H' xs := fun x hx => let ⟨f, p⟩ := A x hx; ⟨f, p.mv m⟩
/-- no table, or of another width -/
def PBad (a : Ad) (H : Hp) (wd : Nat) (x : V) : Prop := isT a.CT H x = false ∨ ∃ R' w', Tb a.CT H x R' ∧ Shp R' w' ∧ w' ≠ wd
noncomputable def badB (a : Ad) (H : Hp) (wd : Nat) (x : V) : Bool := @decide (PBad a H wd x) (Classical.propDecidable _)
theorem badB_t {a : Ad} {H : Hp} {wd : Nat} {x : V} : badB a H wd x = true ↔ PBad a H wd x := by unfold badB; exact @decide_eq_true_iff _ (Classical.propDecidable _)
theorem badB_f {a : Ad} {H : Hp} {wd : Nat} {x : V} : badB a H wd x = false ↔ ¬ PBad a H wd x := by
  rw [← badB_t]
  cases badB a H wd x <;> simp
theorem shp_row {R : List (List Int)} {w : Nat} (S : Shp R w) : ∃ row R0, R = row :: R0 ∧ row.length = w := by
  cases R with
  | nil => exact absurd S.pos (by decide)
  | cons row R0 => exact ⟨row, R0, rfl, (S.row row (List.mem_cons_self ..)).1⟩
/-- the width of a table is one -/
theorem tb_one {CT : Addr} {H : Hp} {v : V} {R R' : List (List Int)} (t : Tb CT H v R) (t' : Tb CT H v R') : R = R' := by
  obtain ⟨b, dx, r, ts, rfl, h1, h2, h3⟩ := t
  obtain ⟨b', dx', r', ts', e, h1', h2', h3'⟩ := t'
  cases e
  rw [h1] at h1'
  cases h1'
  rw [h2] at h2'
  injection (Option.some.inj h2') with h2'
  have e : ts = ts' := by
    have inj : ∀ {l m : List Addr}, l.map V.ref = m.map V.ref → l = m := by
      intro l
      induction l with
      | nil => intro m h; cases m with
        | nil => rfl
        | cons _ _ => exact nomatch h
      | cons x l ih => intro m h; cases m with
        | nil => exact nomatch h
        | cons y m =>
          injection h with h1 h2
          injection h1 with h1
          rw [h1, ih h2]
    exact inj h2'
  subst e
  clear h1 h2 h2'
  induction h3 generalizing R' with
  | nil => cases h3'; rfl
  | cons x _ ih =>
    cases h3' with
    | cons y z =>
      have q := x.symm.trans y
      injection (Option.some.inj q) with q
      rw [ih z rfl]
      congr 1
      have inj : ∀ {l m : List Int}, l.map V.int = m.map V.int → l = m := by
        intro l
        induction l with
        | nil => intro m h; cases m with
          | nil => rfl
          | cons _ _ => exact nomatch h
        | cons x l ih => intro m h; cases m with
          | nil => exact nomatch h
          | cons y m =>
            injection h with h1 h2
            injection h1 with h1
            rw [h1, ih h2]
      exact inj q
theorem fw_pc {i : Nat} {ws : List Str} (hi : i < 6) : firstW ((("pieces " : Str) ++ toString (i : Int)) :: ws) = ("pieces " : Str) ++ toString (i : Int) := fw_ne (six i hi).2.2.1
end
end G


set_option Elab.async false
set_option linter.all false
set_option maxRecDepth 100000
set_option maxHeartbeats 4000000
set_option pp.deepTerms true
set_option pp.maxSteps 100000
set_option format.width 230
namespace G
open PySem PySem.Spec PyProof.Rows L2
local macro_rules | `(tactic| walk_at "rd") => `(tactic| try simp only [cxOf_K, tSeq, tIfS, tTest, tB, tCB, tCons, tNil, tC, tVar, tOp, tUn, tAndV, tOrV, tNotV, tAnd, tOr, tNot, tIf, tChain, tRet, tRetN, tAsg, gName, tDrop, tNext, tCallS, WE, rI0, rI, rU, L2.start, tYes, tLc, tFor, gTup, gCons, gNil, tPar, tPar3, tAug, ipI, tWidth, tCall, tMeth, tMake, tFld, tRows, tTable, sFld, rMulT, rSumT, gSub, tBM, rAppend, rSetL, rExtend, rSlL, rSlQ, tCol, Int.toNat_natCast,  tSl, tNoPart, tPart, tTup, tLst, tNever, itu_g, sDPut, tDNewK, tDNewN, tDispN, rSetN, rIxN, rInN, tGetN, rGetN, iKN, iIN, iRg3, iRng3, rGetL, tAugS, tNo, rCopyN, rRep,
  List.map_cons, List.map_nil, List.length_cons, List.length_nil, List.cons_append, List.nil_append, List.replicate, Nat.reduceAdd, Nat.reduceSub, Nat.zero_add, Nat.sub_self,
  List.getElem?_cons_zero, List.getElem?_cons_succ, List.set_cons_zero, List.set_cons_succ, wipe, Option.some.injEq, exists_eq_left', exists_eq_left, V.bl.injEq, V.int.injEq, ref_inj, ty_inj, if_true, if_false, Bool.false_eq_true, Bool.true_eq_false, exists_const, exists_and_left, true_and, and_true, List.cons.injEq,
  isB_int, isB_bool, isB_tuple, isB_list, isT_at, iSq, iRg1, iRg2, iZ2, iZ3, iEn])
local macro_rules | `(tactic| walk_at "r1") => `(tactic| try simp only [cxOf_K, tSeq, tIfS, tTest, tB, tCB, tCons, tNil, tC, tVar, tOp, tUn, tAndV, tOrV, tNotV, tAnd, tOr, tNot, tIf, tChain, tRet, tRetN, tAsg, gName, tDrop, tNext, tCallS, WE, rI0, rI, rU, L2.start, tYes, gTup, gCons, gNil, tPar, tPar3, tAug, ipI, tWidth, tCall, tMeth, tMake, tFld, tRows, tTable, sFld, rMulT, rSumT, gSub, tBM, rAppend, rSetL, rExtend, rSlL, rSlQ, tCol, Int.toNat_natCast,  tSl, tNoPart, tPart, tTup, tLst, tNever, itu_g, sDPut, tDNewK, tDNewN, tDispN, rSetN, rIxN, rInN, tGetN, rGetN, iKN, iIN, iRg3, iRng3, rGetL, tAugS, tNo, rCopyN, rRep,
  List.map_cons, List.map_nil, List.length_cons, List.length_nil, List.cons_append, List.nil_append, List.replicate, Nat.reduceAdd, Nat.reduceSub, Nat.zero_add, Nat.sub_self,
  List.getElem?_cons_zero, List.getElem?_cons_succ, List.set_cons_zero, List.set_cons_succ, wipe, Option.some.injEq, exists_eq_left', exists_eq_left, V.bl.injEq, V.int.injEq, ref_inj, ty_inj, if_true, if_false, Bool.false_eq_true, Bool.true_eq_false, exists_const, exists_and_left, true_and, and_true, List.cons.injEq,
  isB_int, isB_bool, isB_tuple, isB_list, isT_at, iSq, iRg1, iRg2, iZ2, iZ3, iEn])
local macro_rules | `(tactic| walk_at "r0") => `(tactic| try simp only [cxOf_K, tIfS, tTest, tB, tCB, tCons, tNil, tC, tVar, tOp, tUn, tAndV, tOrV, tNotV, tAnd, tOr, tNot, tIf, tChain, tRet, tRetN, tAsg, gName, tDrop, tNext, tCallS, WE, rI0, rI, rU, L2.start, tYes, gTup, gCons, gNil, tPar, tPar3, tAug, ipI, tWidth, tCall, tMeth, tMake, tFld, tRows, tTable, sFld, rMulT, rSumT, gSub, tBM, rAppend, rSetL, rExtend, rSlL, rSlQ, tCol, Int.toNat_natCast,  tSl, tNoPart, tPart, tTup, tLst, tNever, itu_g, sDPut, tDNewK, tDNewN, tDispN, rSetN, rIxN, rInN, tGetN, rGetN, iKN, iIN, iRg3, iRng3, rGetL, tAugS, tNo, rCopyN, rRep,
  List.map_cons, List.map_nil, List.length_cons, List.length_nil, List.cons_append, List.nil_append, List.replicate, Nat.reduceAdd, Nat.reduceSub, Nat.zero_add, Nat.sub_self,
  List.getElem?_cons_zero, List.getElem?_cons_succ, List.set_cons_zero, List.set_cons_succ, wipe, Option.some.injEq, exists_eq_left', exists_eq_left, V.bl.injEq, V.int.injEq, ref_inj, ty_inj, if_true, if_false, Bool.false_eq_true, Bool.true_eq_false, exists_const, exists_and_left, true_and, and_true, List.cons.injEq,
  isB_int, isB_bool, isB_tuple, isB_list, isT_at, iSq, iRg1, iRg2, iZ2, iZ3, iEn])
local macro_rules | `(tactic| walk_at "st") => `(tactic| ((try dsimp only); rw [tSeq_def]))
local macro_rules | `(tactic| walk_at "lp") => `(tactic| first | rw [tFor_def] | rw [tLc_def] | rw [tWhile_def])
local macro_rules | `(tactic| walk_at "ex") => `(tactic| simp only [List.cons.injEq, and_true, true_and, and_assoc, exists_and_left, exists_eq_left', exists_eq_left, exists_eq_right, exists_const, V.int.injEq, V.bl.injEq, ref_inj, Bool.not_true, Bool.not_false, Bool.false_eq_true, if_true, if_false, Bool.true_eq_false])
section
variable {P : Program} {w : World} {K : PySem.W.Frag} {mg : Str → Option Value} {base : Heap} {a : Ad}
open LamX NdefX
theorem opK_eqD {X : Cx} {K : PySem.W.Frag} (hK : X.K = K) (hu : X.A.units + 64 < cLine) : OpR X (compareOp .Eq) (rEqD K) := by
  subst hK
  exact op_eqD hu
/-- what stands while pieces are drawn -/
structure PS (K : PySem.W.Frag) (a : Ad) (sc0 d : Addr) (T0 : List (Addr × Str)) (H0 : Hp) (one other : V) (n wd : Nat) (H : Hp) : Prop where
  x : SameX d H0 H
  dr : DrawAt K sc0 H d
  t : Tabs T0 H
  o1 : Tb a.CT H one (List.replicate n (List.replicate wd 0))
  o2 : Tb a.CT H other [List.replicate (wd + 1) 0]
section
variable {a : Ad} {sc0 d : Addr} {T0 : List (Addr × Str)} {H0 : Hp} {one other : V} {n wd : Nat} {H H' : Hp}
theorem PS.same (s : PS K a sc0 d T0 H0 one other n wd H) (e : Same H H') : PS K a sc0 d T0 H0 one other n wd H' := ⟨s.x.same e, s.dr.same e, s.t.ext e, s.o1.same e, s.o2.same e⟩
theorem PS.xx (s : PS K a sc0 d T0 H0 one other n wd H) (e : SameX d H H') (d' : DrawAt K sc0 H' d) : PS K a sc0 d T0 H0 one other n wd H' := ⟨s.x.trans e, d', tabs_x s.t s.dr e, (Mv.ofX e s.dr d').tb s.o1, (Mv.ofX e s.dr d').tb s.o2⟩
end
/-- _law_pieces_right(draw) -/
def spPR (K : PySem.W.Frag) (a : Ad) (T : List (Addr × Str)) : Sp := fun vs H Q _ => ∃ (d sc0 : Addr), vs = [.ref d] ∧ DrawAt K sc0 H d ∧ Tabs T H ∧ ∀ H', SameT d H H' → DrawAt K sc0 H' d → Tabs T H' → Q (.bl true) H'
abbrev N__law_pieces_right : List Str := ["_law_draw", "_law_width", "_law_one", "_law_other", "_law_pieces_now", "_law_prices", "_law_due", "_law_bad", "_law_large", "_law_calls", "_law_at", "_law_piece", "_law_call"]
set_option maxHeartbeats 16000000 in
theorem ok_law_pieces_right {g c P0 : Addr} {T0 : List (Addr × Str)} (D : DefC K mg "_law_pieces_right" 82 c) (T : Txt K mg a) (M : TabM P w K mg base a.CT) (W : WordOk P w K mg base a 8 g ∧ mg "_law_word" = some (.ref g) ∧ PySem.W.keepIn K (.ref g) = true)
    (TB : Tbs base mg T0 c P0 ((("_law_pieces_right" : Str) ++ ".<locals>.") ++ "<lambda>")) (cl_Seamed : Cls K a.CSe) (c_Table : MkX P w K mg base 4 "Table" a.CT (spInit a.CT))
    (c__law_take : CalX P w K mg base 4 "_law_take" (spLt K)) (c__law_pick : CalX P w K mg base 5 "_law_pick" (spLp K)) (c__law_odd : CalX P w K mg base 6 "_law_odd" (spLo K a)) (c__law_some_prices : CalX P w K mg base 7 "_law_some_prices" (spLs2 K a))
    (c__law_prices_word : CalX P w K mg base 3 "_law_prices_word" (spLw a)) (c__law_first : CalX P w K mg base 1 "_law_first" spLf)
    (c_best_seams : CalX P w K mg base 4 "best_seams" (spBs P w a)) (c_least_seams : CalX P w K mg base 4 "least_seams" (spLs a)) (c_put_together_best : CalX P w K mg base 7 "put_together_best" (spLs a))
    (c_Seamed : MkX P w K mg base 1 "Seamed" a.CSe (spSi P w a.CSe)) (c_Seamed_shows : MetX P w K mg base 4 a.CSe "shows" (spSs P w a)) : CalX P w K mg base 10 "_law_pieces_right" (spPR K a T0) := by
  refine calxC (N := N__law_pieces_right) (ps := ["_law_draw"]) D (by decide +kernel) (fun vs H Q E h => ?_) (fun _ _ _ _ _ _ us hl => match us, hl with | [_], _ => rfl) (fun f A outer s H vs Q E hr nd tk pn h => ⟨_, (pss_cons (ps_set (i := 1) nd rfl (Or.inr rfl) (pe_op op_add pe_int (pe_cx c__law_take hr (by decide) tk (pa_cons (pv 0) (pa_cons pe_int pa_nil)))))
      (pss_cons (ps_par (i := 2) (j := 3) rfl nd rfl rfl (by decide) rfl rfl (pa_cons (pe_mkTable c_Table hr (by decide) (pa_cons (pe_op op_rep (pe_lst (pa_cons (pe_op op_mulT (pe_tup (pa_cons pe_int pa_nil)) (pv 1)) pa_nil)) (pe_op op_add pe_int (pe_cx c__law_take hr (by decide) tk (pa_cons (pv 0) (pa_cons pe_int pa_nil))))) pa_nil)) (pa_cons (pe_mkTable c_Table hr (by decide) (pa_cons (pe_lst (pa_cons (pe_op op_mulT (pe_tup (pa_cons pe_int pa_nil)) (pe_op op_add (pv 1) pe_int)) pa_nil)) pa_nil)) pa_nil)) (by rfl))
      (pss_cons (ps_set (i := 4) nd rfl (Or.inr rfl) (pe_cx c__law_pick hr (by decide) tk (pa_cons (pv 0) (pa_cons (pe_lst (pa_cons (pe_lst (pa_cons (pv 2) pa_nil)) (pa_cons (pe_tup (pa_cons (pv 2) (pa_cons (pv 2) pa_nil))) (pa_cons (pe_op op_rep (pe_lst (pa_cons (pv 2) pa_nil)) pe_int) (pa_cons (pe_op op_rep (pe_lst (pa_cons (pv 2) pa_nil)) pe_int) (pa_cons (pe_lst pa_nil) (pa_cons (pe_lst (pa_cons (pv 2) (pa_cons (pv 3) pa_nil))) (pa_cons (pe_lst (pa_cons (pv 2) (pa_cons pe_non (pa_cons (pv 2) pa_nil)))) (pa_cons (pe_cx c__law_odd hr (by decide) tk (pa_cons (pv 0) pa_nil)) (pa_cons (pe_disp (pps_cons pe_int (pv 2) pps_nil) rfl rfl (by simp) (by decide)) pa_nil)))))))))) pa_nil))))
      (pss_cons (ps_set (i := 5) nd rfl (Or.inr rfl) (pe_cx c__law_some_prices hr (by decide) tk (pa_cons (pv 0) (pa_cons (pv 1) pa_nil))))
      (pss_cons (ps_if (PW.pt (pw_or (pt_not (pt_val (pe_callB (call_isLT T.k) (by rfl) T.isinstance bi_isinstance (pa_cons (pv 4) (pa_cons (pe_tup (pa_cons (pe_bltn (v := .ty "list") (by rfl) T.list bi_list rfl) (pa_cons (pe_bltn (v := .ty "tuple") (by rfl) T.tuple bi_tuple rfl) pa_nil))) pa_nil))))) (pw_or1 (pt_not (pt_chain op_le op_le pe_int (pe_callB (call_lenK (K := K) rfl M hr (by decide)) (by rfl) T.len bi_len (pa_cons (pv 4) pa_nil)) pe_int)))))
      (pss_one (ps_set (i := 6) nd rfl (Or.inr rfl) pe_str))
      (pss_cons (ps_setLc (i := 7) (own := [("_law_at", 10), ("_law_piece", 11)]) rfl nd rfl rfl (sw_true rfl rfl rfl (by decide +kernel)) (pi_en (by rfl) T.enumerate (pa_cons (pv 4) pa_nil)) (blkOk_by (own := [("_law_at", 10), ("_law_piece", 11)]) (N := N__law_pieces_right) (sc := defScope (top 82)) (by decide +kernel)) (fun _ _ _ _ _ => (pg_tupK (K := K) (n := 2) rfl rfl (pgs_cons (pg_name (i := 10) nd rfl (Or.inl rfl)) (pgs_cons (pg_name (i := 11) nd rfl (Or.inl rfl)) pgs_nil)))) (fun _ _ _ _ _ => (pts_one (PW.pt (pw_or (pt_not (pt_val (pe_callB (call_isT T.k) (by rfl) T.isinstance bi_isinstance (pa_cons (pv 11) (pa_cons (C8.pe_gc (by rfl) T.vTable) pa_nil))))) (pw_or1 (pt_cmpR op_ne (pe_width M hr (by decide) (pv 11)) (pv 1) (nomark _))))))) (fun _ _ _ _ _ => (pv 10)))
      (pss_cons (ps_set (i := 8) nd rfl (Or.inl rfl) (pe_ifExp (PW.pt (pw_and (pt_cmpR (opK_eqD (K := K) rfl hr.units) (pv 7) (pe_lst pa_nil) (nomark _)) (pw_and1 (pt_cmpR op_gt (pe_callB (crK_sum (K := K) rfl rfl) (by rfl) T.sum bi_sum (pa_cons (pe_lc (own := [("_law_piece", 11)]) rfl nd (piK_sq (K := K) rfl (pv 4)) (blkOk_by (own := [("_law_piece", 11)]) (N := N__law_pieces_right) (sc := defScope (top 82)) (by decide +kernel)) (fun _ _ _ _ _ => (pg_name (i := 11) nd rfl (Or.inl rfl))) (fun _ _ _ _ _ => pts_nil) (fun _ _ _ _ _ => (pe_callB (call_lenK (K := K) rfl M hr (by decide)) (by rfl) T.len bi_len (pa_cons (pv 11) pa_nil)))) pa_nil)) pe_int (nomark _))))) pe_str pe_str))
      (pss_one (ps_set (i := 6) nd rfl (Or.inr rfl) (pe_cx c__law_first hr (by decide) tk (pa_cons (pe_lst (pa_cons (pe_ifExp (pt_cmpR (opK_neD (K := K) rfl hr.units) (pv 7) (pe_lst pa_nil) (nomark _)) (pe_op op_add_str pe_str (pe_callTy call_strIx (by rfl) T.str bi_str (pa_cons (pe_ix (ixK (K := K) rfl) (pv 7) pe_int (fun _ _ => rfl)) pa_nil))) pe_str) (pa_cons (pv 8) (pa_cons (pe_cx c__law_prices_word hr (by decide) tk (pa_cons (pv 5) (pa_cons (pv 1) pa_nil))) pa_nil)))) pa_nil)))))))
      (pss_cons (ps_set (i := 9) nd rfl (Or.inl rfl) (pe_lst (pa_cons (pe_lamL (N := ["_law_ka", "_law_pieces_now", "_law_prices"]) (fr := ["_law_pieces_now", "_law_prices"]) (js := [4, 5]) (x := "_law_ka") (k := 7) (P := P) (w := w) (K := K) (mg := mg) (base := base) rfl rfl rfl rfl rfl TB rfl rfl (show ndefB (defScope (top 82)) _ _ = true by decide +kernel) rfl (nscope_by (by decide +kernel)) (fun _ _ _ _ _ us hl => match us, hl with | [_], _ => rfl)
        (fun c' f A outer s H E hr tk => (pe_cx c_best_seams hr (by decide) tk (pa_cons (pv 1) (pa_cons (pv 2) pa_nil))))) (pa_cons (pe_lamL (N := ["_law_kb", "_law_pieces_now", "_law_prices"]) (fr := ["_law_pieces_now", "_law_prices"]) (js := [4, 5]) (x := "_law_kb") (k := 7) (P := P) (w := w) (K := K) (mg := mg) (base := base) rfl rfl rfl rfl rfl TB rfl rfl (show ndefB (defScope (top 82)) _ _ = true by decide +kernel) rfl (nscope_by (by decide +kernel)) (fun _ _ _ _ _ us hl => match us, hl with | [_], _ => rfl)
        (fun c' f A outer s H E hr tk => (pe_cx c_least_seams hr (by decide) tk (pa_cons (pv 1) (pa_cons (pv 2) pa_nil))))) pa_nil))))
      (pss_cons (ps_set (i := 9) nd rfl (Or.inl rfl) (pe_op op_cat (pv 9) (pe_lst (pa_cons (pe_lamL (N := ["_law_kc", "_law_pieces_now", "_law_prices"]) (fr := ["_law_pieces_now", "_law_prices"]) (js := [4, 5]) (x := "_law_kc") (k := 7) (P := P) (w := w) (K := K) (mg := mg) (base := base) rfl rfl rfl rfl rfl TB rfl rfl (show ndefB (defScope (top 82)) _ _ = true by decide +kernel) rfl (nscope_by (by decide +kernel)) (fun _ _ _ _ _ us hl => match us, hl with | [_], _ => rfl)
        (fun c' f A outer s H E hr tk => (pe_cx c_put_together_best hr (by decide) tk (pa_cons (pv 1) (pa_cons (pv 2) pa_nil))))) (pa_cons (pe_lamL (N := ["_law_kd", "_law_pieces_now", "_law_prices"]) (fr := ["_law_pieces_now", "_law_prices"]) (js := [4, 5]) (x := "_law_kd") (k := 7) (P := P) (w := w) (K := K) (mg := mg) (base := base) rfl rfl rfl rfl rfl TB rfl rfl (show ndefB (defScope (top 82)) _ _ = true by decide +kernel) rfl (nscope_by (by decide +kernel)) (fun _ _ _ _ _ us hl => match us, hl with | [_], _ => rfl)
        (fun c' f A outer s H E hr tk => (pe_mxE c_Seamed_shows cl_Seamed hr (by decide) tk (pe_mkSeamed c_Seamed rfl rfl hr (by decide) (pa_cons (pe_lst pa_nil) (pa_cons (pe_dnewN (P := P) (w := w)) pa_nil))) (pa_cons (pv 1) (pa_cons (pv 2) pa_nil))))) pa_nil)))))
      (pss_one (ps_ret (pe_callB (crK_all (K := K) rfl rfl) (by rfl) T.all bi_all (pa_cons (pe_lcS (own := [("_law_call", 12)]) rfl nd (piK_sq (K := K) rfl (pv 9)) (blkOk_by (own := [("_law_call", 12)]) (N := N__law_pieces_right) (sc := defScope (top 82)) (by decide +kernel)) (fun _ _ _ _ _ => (pg_name (i := 12) nd rfl (Or.inl rfl))) (fun _ _ _ _ _ => pts_nil) (fun pins τ s H C cl fp I hfp => (pe_cmpR op_eq (pe_word (P := P) (w := w) (K := K) (mg := mg) (base := base) rfl rfl rfl rfl rfl W.1 W.2.1 W.2.2 (fun _ _ _ _ _ _ _ J g => goodBlk (fun _ => rfl) I hfp J g) hr (by decide) (pv 12)) (pv 6) (nomark _)))) pa_nil))))))))))), ?_⟩)
  · obtain ⟨_, _, rfl, _⟩ := h
    rfl
  · obtain ⟨d, sc0, rfl, hd, hT, q⟩ := h
    clear tk pn nd hr
    generalize hX : cxOf (L2.CX P w) P w K mg base N__law_pieces_right "_law_pieces_right" (defScope (top 82)) f (.ref c) A outer s H E = X
    have hXK : X.K = K := by rw [← hX]; rfl
    rw [hXK]
    clear hX
    walk_at "st"
    walk_at "r0"
    refine ⟨d, sc0, 3, rfl, hd, by decide, fun x H1 x1 d1 a1 b1 => ⟨x, rfl, ?_⟩⟩
    obtain ⟨wd, hwd⟩ : ∃ wd : Nat, 1 + x = (wd : Int) := ⟨(1 + x).toNat, by omega⟩
    rw [hwd]
    have w1 : 1 ≤ wd := by omega
    have w3 : wd ≤ 3 := by omega
    clear hwd a1 b1
    have T1 := tabs_x hT hd x1
    walk_at "st"
    generalize hB : tSeq (tAsg (tCallS (spLp K) _ _) (gName 4)) _ = B
    have rest : ∀ (H' : Hp) (one other : V) (n : Nat), PS K a sc0 d T0 H one other n wd H' → 1 ≤ n → n ≤ 4 →
        B { nx := fun x H' => Q V.non H', rt := Q } [some (.ref d), some (.int (wd : Nat)), some one, some other, none, none, none, none, none, none, none, none, none] H' := by
      subst hB
      intro H2 one other n P2 n1 n4
      clear T1 x1 d1
      have S1 := shp_zero n1 (show n ≤ 10 by omega) w1 (show wd ≤ 4 by omega)
      have S2 := shp_zero (n := 1) (wd := wd + 1) (by omega) (by omega) (by omega) (by omega)
      walk_at "st"
      generalize hB : tSeq (tAsg (tCallS (spLs2 K a) _ _) (gName 5)) _ = B
      have rest : ∀ (H' : Hp) (v : V) (f : Str → Str), PS K a sc0 d T0 H one other n wd H' → PcV a d H' one n wd v f →
          B { nx := fun x H' => Q V.non H', rt := Q } [some (.ref d), some (.int (wd : Nat)), some one, some other, some v, none, none, none, none, none, none, none, none] H' := by
        subst hB
        intro H3 v fdue P3 pc3
        walk_at "st"
        generalize hB : tSeq (tIfS _ _ _) _ = B
        have rest : ∀ (H' : Hp) (pv : V), PS K a sc0 d T0 H one other n wd H' → PcV a d H' one n wd v fdue → TgP a.CT H' pv →
            B { nx := fun x H' => Q V.non H', rt := Q } [some (.ref d), some (.int (wd : Nat)), some one, some other, some v, some pv, none, none, none, none, none, none, none] H' := by
          subst hB
          intro H4 pv P4 pc4 gp4
          clear P2 P3 pc3
          walk_at "st"
          generalize hB : tSeq (tAsg (tLst (tCons _ (tCons _ tNil))) (gName 9)) _ = B
          have rest : ∀ (H' : Hp) (due : Str) (s7 s8 : Option V), Same H4 H' → due = fdue (prW H4 pv wd) →
              B { nx := fun x H' => Q V.non H', rt := Q } [some (.ref d), some (.int (wd : Nat)), some one, some other, some v, some pv, some (.str due), s7, s8, none, none, none, none] H' := by
            subst hB
            intro H5 due s7 s8 e5 hdue
            have P5 := P4.same e5
            have pc5 := pc4.mv (Mv.ofS e5 P4.dr)
            have gp5 := gp4.same e5
            have hpw : prW H5 pv wd = prW H4 pv wd := by unfold prW; rw [prB_same gp4.1 e5]
            have C5 : CS T0 H5 H5 := ⟨ExtN.refl H5, P5.t⟩
            have pre : ∀ (H' : Hp) (Q' : VK) (ok : Addr → Nat → V → Nat → Nat → Prop), CS T0 H5 H' → (∀ H2, Same H' H2 → Q' (.str due) H2) → ((∀ H2, Same H' H2 → Q' (.str "none") H2) → ∀ l k one n w, ok l k one n w) → PreP a H' (wordE a Q') v pv ok := fun H' Q' ok C q' k =>
              out_pc (pc5.mv (Mv.ofE C.e P5.dr)) (tb_ext P5.o1 C.e) S1 (tgP_ext gp5 C.e) (by rw [prW_ext gp5.1 C.e, hpw, ← hdue]; exact q') k
            walk_at "st"
            walk_at "r0"
            refine ⟨C5.t, fun f1 H6 e6 _ T6 _ L1 => ?_⟩
            have G1 := LamS.due (a := a) (T0 := T0) (H0 := H5) (due := due) (ws := [some v, some pv]) L1 fun H' Q' C q' => ⟨v, rfl, pv, rfl, v, pv, rfl, pre H' Q' _ C q' fun k l k' one n w => fun z H2 ts pl kvs e _ _ _ => k H2 e⟩
            have C6 := C5.ext e6 T6
            refine ⟨C6.t, fun f2 H7 e7 _ T7 _ L2 => ?_⟩
            have G2 := LamS.due (a := a) (T0 := T0) (H0 := H5) (due := due) (ws := [some v, some pv]) L2 fun H' Q' C q' => ⟨v, rfl, pv, rfl, v, pv, rfl, pre H' Q' _ C q' fun k l k' one n w => fun z H2 e => k H2 e⟩
            have C7 := C6.ext e7 T7
            refine ⟨by decide, fun p1 hp1 => ?_⟩
            have E8 := ExtN.of (same_new (o := .lst [.ref f1, .ref f2]) (Same.refl H7) hp1)
            have C8 := C7.same (same_new (o := .lst [.ref f1, .ref f2]) (Same.refl H7) hp1)
            have hl8 : upd H7 p1 (.lst [.ref f1, .ref f2]) p1 = some (.lst [.ref f1, .ref f2]) := upd_same
            have G1' := (G1.ext e7).ext E8
            have G2' := G2.ext E8
            clear G1 G2 L1 L2 C7 C6 e6 e7 T6 T7
            generalize upd H7 p1 (.lst [.ref f1, .ref f2]) = H8 at C8 hl8 G1' G2' ⊢
            walk_at "st"
            walk_at "r0"
            refine ⟨C8.t, fun f3 H9 e9 _ T9 _ L3 => ?_⟩
            have G3 := LamS.due (a := a) (T0 := T0) (H0 := H5) (due := due) (ws := [some v, some pv]) L3 fun H' Q' C q' => ⟨v, rfl, pv, rfl, v, pv, rfl, pre H' Q' _ C q' fun k l k' one n w => fun z H2 e => k H2 e⟩
            have C9 := C8.ext e9 T9
            refine ⟨C9.t, fun f4 H10 e10 _ T10 _ L4 => ?_⟩
            have G4 := LamS.due (a := a) (T0 := T0) (H0 := H5) (due := due) (ws := [some v, some pv]) L4 fun H' Q' C q' => ?_
            · have C10 := C9.ext e10 T10
              refine ⟨by decide, fun p2 hp2 => ?_⟩
              refine ⟨p1, p2, _, _, rfl, rfl, (same_new (Same.refl H10) hp2) _ _ (e10 _ _ (e9 _ _ hl8 fun _ => nofun) fun _ => nofun), upd_same, by show 4 ≤ sizeLine; decide, fun p3 hp3 => ?_⟩
              have S11 := (same_new (o := .lst [.ref f3, .ref f4]) (Same.refl H10) hp2).trans (same_new (o := .lst ([.ref f1, .ref f2] ++ [.ref f3, .ref f4])) (Same.refl _) hp3)
              have hl11 : upd (upd H10 p2 (.lst [.ref f3, .ref f4])) p3 (.lst ([.ref f1, .ref f2] ++ [.ref f3, .ref f4])) p3 = some (.lst [.ref f1, .ref f2, .ref f3, .ref f4]) := upd_same
              generalize upd (upd H10 p2 (.lst [.ref f3, .ref f4])) p3 (.lst ([.ref f1, .ref f2] ++ [.ref f3, .ref f4])) = H11 at S11 hl11 ⊢
              have C11 := C10.same S11
              have E11 := ExtN.of S11
              have all : ∀ x ∈ ([.ref f1, .ref f2, .ref f3, .ref f4] : List V), ∃ f, x = .ref f ∧ LamS P w K mg base X [4, 5] [some v, some pv] H11 f (DueAt a T0 H5 due) := by
                intro x hx
                simp only [List.mem_cons, List.not_mem_nil, or_false] at hx
                rcases hx with rfl | rfl | rfl | rfl
                · exact ⟨_, rfl, ((G1'.ext e9).ext e10).ext E11⟩
                · exact ⟨_, rfl, ((G2'.ext e9).ext e10).ext E11⟩
                · exact ⟨_, rfl, (G3.ext e10).ext E11⟩
                · exact ⟨_, rfl, G4.ext E11⟩
              clear G1' G2' G3 G4 C8 C9 C10 e9 e10 T9 T10 S11 E11 hl8 L3 L4
              walk_at "r0"
              walk_at "lp"
              walk_at "r0"
              refine ⟨true, _, sqA_l hl11, fun D1 hD1 => ?_⟩
              refine lcA (fun _ => .bl true) hD1 (by show 4 ≤ 100000; decide) (fun H' e => sqA_l (e _ _ hl11)) (fun i u H20 H21 acc Nx hi e20 ha y k => ?_) (fun H20 e20 h20 => ?_)
              · simp only [yV] at y
                obtain ⟨rfl, rfl⟩ := y
                obtain ⟨fc, hfc, L⟩ := all _ (getD_mem (d := V.non) hi)
                refine ⟨_, rfl, fc, _, hfc, (L.ext (ExtN.of e20)) _ rfl, C11.same e20, _, rfl, rfl, fun H22 e22 => ⟨rfl, ?_⟩⟩
                rw [decide_eq_true rfl]
                exact k H22 e22
              · refine all_l (bs := (List.range 4).map fun _ => true) (by rw [h20]; rfl) ?_
                have C20 := C11.same e20
                rw [show ((List.range 4).map fun _ => true).all id = true from rfl]
                exact q H20 ((SameT.ofX P5.x).trans (SameT.ofE C20.e)) (P5.dr.ext C20.e) C20.t
            · show tMeth a.CSe "shows" (spSs P w a) [] (wordE a Q') (tSeamed P w a.CSe (tCons (tLst tNil) (tCons (tDNewN P w) tNil))) (tCons (tVar 1) (tCons (tVar 2) tNil)) [some (.int 0), some v, some pv] H' (fun _ H' => Q' (.str "none") H')
              refine ⟨Nat.zero_le _, fun pk hpk => ?_⟩
              intro pd Hn hpd e2 _ hdn
              refine ⟨pk, pd, [], [], rfl, e2 _ _ upd_same, hdn, List.nodup_nil, fun vx Hm e3 th => ?_⟩
              have th' := th
              obtain ⟨x, dx, kt, fl, rfl, hx, hkt, hfl⟩ := th'
              have s3 : Same H' Hm := fun b o hb => e3 b o (e2 b o (same_new (Same.refl H') hpk b o hb))
              exact ⟨x, dx, _, rfl, hx, rfl, v, rfl, pv, rfl, .ref x, v, pv, _, rfl, th, pre Hm Q' _ (C.same s3) (fun H4 e4 => q' H4 (s3.trans e4)) fun k l k' one n w H4 e => k H4 e⟩
          clear hB
          walk_at "r0"
          refine ⟨by decide, fun q1 hq1 => ?_⟩
          have e5 := same_new (o := .tup [.ty "list", .ty "tuple"]) (Same.refl H4) hq1
          have h5 : upd H4 q1 (.tup [.ty "list", .ty "tuple"]) q1 = some (.tup [.ty "list", .ty "tuple"]) := upd_same
          generalize upd H4 q1 (.tup [.ty "list", .ty "tuple"]) = H5 at e5 h5 ⊢
          have P5 := P4.same e5
          have pc5 := pc4.mv (Mv.ofS e5 P4.dr)
          refine ⟨_, _, rfl, h5, pc5.tg, ?_⟩
          generalize hC : tSeq (tAsg (tLc _ _ _ _ _) (gName 7)) _ = C
          have inner : ∀ (l : Addr) (xs : List V), v = .ref l → PcAs H5 l xs → xs.length ≤ 6 → (∀ x ∈ xs, El a H5 x) →
              ((∃ k, xs = List.replicate k one ∧ fdue (prW H4 pv wd) = firstW [okW (!decide (10 < k * n)) "large", prW H4 pv wd]) ∨ (∃ i r, i < 6 ∧ kept (fun j => badB a H5 wd (xs.getD j .non)) xs.length = i :: r ∧ fdue (prW H4 pv wd) = ("pieces " : Str) ++ toString (i : Int))) →
              C { nx := fun σ' H' => B { nx := fun x H' => Q V.non H', rt := Q } σ' H', rt := Q } [some (.ref d), some (.int (wd : Nat)), some one, some other, some v, some pv, none, none, none, none, none, none, none] H5 := by
            subst hC
            intro l xs hv hl h6 hel hcase
            walk_at "st"
            generalize hC : tSeq (tAsg (tIf _ _ _) (gName 8)) _ = C
            have tail : ∀ (H6 : Hp) (D : Addr), Same H5 H6 → H6 D = some (.lst (((kept (fun j => badB a H5 wd (xs.getD j .non)) xs.length).map fun i => ((i : Nat) : Int)).map V.int)) →
                C { nx := fun σ' H' => B { nx := fun x H' => Q V.non H', rt := Q } σ' H', rt := Q } [some (.ref d), some (.int (wd : Nat)), some one, some other, some v, some pv, none, some (.ref D), none, none, none, none, none] H6 := by
              subst hC
              intro H6 D e6 hD6
              rcases hcase with ⟨k, hxs, hf⟩ | ⟨i0, r, hi0, hk, hf⟩
              · have hkn : kept (fun j => badB a H5 wd (xs.getD j .non)) xs.length = [] := kept_none fun j hj => by
                  rw [hxs] at hj ⊢
                  rw [getD_rep (by rw [List.length_replicate] at hj; exact hj)]
                  refine badB_f.mpr fun z => ?_
                  rcases z with z | ⟨R', w2, t2, S2', ne⟩
                  · rw [P5.o1.isT] at z
                    exact nomatch z
                  · have qe := tb_one P5.o1 t2
                    subst qe
                    obtain ⟨row, R0, he, hr⟩ := shp_row S1
                    rw [he] at S2'
                    exact ne ((S2'.row row (List.mem_cons_self ..)).1.symm.trans hr)
                rw [hkn] at hD6
                walk_at "st"
                walk_at "r0"
                refine ⟨Nat.zero_le _, fun q7 hq7 => ?_⟩
                have e7 := same_new (o := .lst []) (Same.refl H6) hq7
                have hn7 : upd H6 q7 (.lst []) q7 = some (.lst ([] : List V)) := upd_same
                generalize upd H6 q7 (.lst []) = H7 at e7 hn7 ⊢
                refine eq_nilL (e7 _ _ hD6) (dp_ints []) (sh_intL []) hn7 ⟨_, rfl, ?_⟩
                rw [if_pos (by decide)]
                walk_at "lp"
                walk_at "r0"
                obtain ⟨tq, hsq⟩ := hl.sq (K := K)
                refine ⟨l, hv, tq, xs, hsq _ (e6.trans e7), fun D2 hD2 => ?_⟩
                have hxl : xs.length = k := by rw [hxs, List.length_replicate]
                refine lcA (fun _ => .int (n : Nat)) hD2 (by omega) (fun H' e => hsq H' ((e6.trans e7).trans e)) (fun i u H8 H9 acc Nx hi e8 ha y k1 => ?_) (fun H8 e8 h8 => ?_)
                · simp only [yV] at y
                  obtain ⟨rfl, rfl⟩ := y
                  rw [hxs, getD_rep (by omega)]
                  refine len_tb (P5.o1.same ((e6.trans e7).trans e8)) ?_
                  rw [List.length_replicate]
                  exact k1 H9 (Same.refl H9)
                · refine sum_l (ns := (List.range xs.length).map fun _ => (n : Int)) (by rw [h8, mapmapI]) ⟨_, rfl, ?_⟩
                  rw [sum_const, hxl]
                  by_cases hbig : 10 < k * n
                  · have hlg : okW (!decide (10 < k * n)) "large" = "large" := by rw [decide_eq_true hbig]; rfl
                    rw [if_pos (by rw [decide_eq_true_eq]; exact_mod_cast hbig)]
                    refine ⟨Nat.zero_le _, fun q9 hq9 => ?_⟩
                    have e9 := same_new (o := .lst []) (Same.refl H8) hq9
                    have hn9 : upd H8 q9 (.lst []) q9 = some (.lst ([] : List V)) := upd_same
                    generalize upd H8 q9 (.lst []) = H9 at e9 hn9 ⊢
                    have E9 := e5.trans (e6.trans (e7.trans (e8.trans e9)))
                    refine ne_nilL (e9 _ _ (e8 _ _ (e7 _ _ hD6))) (dp_ints []) (sh_intL []) hn9 ⟨_, rfl, ?_⟩
                    rw [if_neg (by decide)]
                    refine ⟨pv, wd, rfl, gp4.same E9, fun H10 e10 => ⟨by decide, fun q10 hq10 => ⟨q10, ["none", "large", prW H9 pv wd], rfl, upd_same, by simp, lay3 lay_none lay_large lay_prW, fun H11 e11 => ?_⟩⟩⟩
                    have pe : prW H9 pv wd = prW H4 pv wd := by unfold prW; rw [prB_same gp4.1 E9]
                    exact rest H11 _ (some (.ref D)) (some (.str "large")) (E9.trans (e10.trans (fun b o hb => e11 b o (same_new (Same.refl H10) hq10 b o hb)))) (by rw [fw_none, pe, hf, hlg])
                  · have hlg : okW (!decide (10 < k * n)) "large" = "none" := by rw [decide_eq_false hbig]; rfl
                    rw [if_neg (by rw [decide_eq_true_eq]; intro z; exact hbig (by exact_mod_cast z))]
                    refine ⟨Nat.zero_le _, fun q9 hq9 => ?_⟩
                    have e9 := same_new (o := .lst []) (Same.refl H8) hq9
                    have hn9 : upd H8 q9 (.lst []) q9 = some (.lst ([] : List V)) := upd_same
                    generalize upd H8 q9 (.lst []) = H9 at e9 hn9 ⊢
                    have E9 := e5.trans (e6.trans (e7.trans (e8.trans e9)))
                    refine ne_nilL (e9 _ _ (e8 _ _ (e7 _ _ hD6))) (dp_ints []) (sh_intL []) hn9 ⟨_, rfl, ?_⟩
                    rw [if_neg (by decide)]
                    refine ⟨pv, wd, rfl, gp4.same E9, fun H10 e10 => ⟨by decide, fun q10 hq10 => ⟨q10, ["none", "none", prW H9 pv wd], rfl, upd_same, by simp, lay3 lay_none lay_none lay_prW, fun H11 e11 => ?_⟩⟩⟩
                    have pe : prW H9 pv wd = prW H4 pv wd := by unfold prW; rw [prB_same gp4.1 E9]
                    exact rest H11 _ (some (.ref D)) (some (.str "none")) (E9.trans (e10.trans (fun b o hb => e11 b o (same_new (Same.refl H10) hq10 b o hb)))) (by rw [fw_none, pe, hf, hlg])
              · rw [hk] at hD6
                walk_at "st"
                walk_at "r0"
                refine ⟨Nat.zero_le _, fun q7 hq7 => ?_⟩
                have e7 := same_new (o := .lst []) (Same.refl H6) hq7
                have hn7 : upd H6 q7 (.lst []) q7 = some (.lst ([] : List V)) := upd_same
                generalize upd H6 q7 (.lst []) = H7 at e7 hn7 ⊢
                refine eq_nilL (e7 _ _ hD6) (dp_ints _) (sh_intL _) hn7 ⟨_, rfl, ?_⟩
                rw [if_neg (by simp)]
                refine ⟨Nat.zero_le _, fun q8 hq8 => ?_⟩
                have e8 := same_new (o := .lst []) (Same.refl H7) hq8
                have hn8 : upd H7 q8 (.lst []) q8 = some (.lst ([] : List V)) := upd_same
                generalize upd H7 q8 (.lst []) = H8 at e8 hn8 ⊢
                have hD8 := e8 _ _ (e7 _ _ hD6)
                have E8 := e5.trans (e6.trans (e7.trans e8))
                refine ne_nilL hD8 (dp_ints _) (sh_intL _) hn8 ⟨_, rfl, ?_⟩
                rw [if_pos (by simp)]
                refine ix_l hD8 (atI_nat (k := 0) rfl) ⟨toString (i0 : Int), if_pos (six i0 hi0).2.1, _, rfl, _, rfl, (six i0 hi0).1, ?_⟩
                refine ⟨pv, wd, rfl, gp4.same E8, fun H9 e9 => ⟨by decide, fun q9 hq9 => ⟨q9, [("pieces " : Str) ++ toString (i0 : Int), "none", prW H8 pv wd], rfl, upd_same, by simp, lay3 (six i0 hi0).2.2.2 lay_none lay_prW, fun H10 e10 => ?_⟩⟩⟩
                exact rest H10 _ (some (.ref D)) (some (.str "none")) (E8.trans (e9.trans (fun b o hb => e10 b o (same_new (Same.refl H9) hq9 b o hb)))) (by rw [fw_pc hi0, hf])
            clear hC
            clear rest
            walk_at "r0"
            walk_at "lp"
            walk_at "r0"
            obtain ⟨tq, hsq⟩ := hl.sq (K := K)
            refine ⟨l, hv, tq, xs, hsq _ (Same.refl H5), fun D hD => ?_⟩
            refine lcV (fun j => badB a H5 wd (xs.getD j .non)) (fun i => .int (i : Nat)) hD (by omega) (fun H' e => hsq H' e) (fun i u H6 H7 acc Nx hi e6 ha y k1 k2 => ?_) (fun H6 e6 h => ?_)
            · obtain ⟨t, rfl, ht, rfl⟩ := y
              have e7 : Same H6 (upd H6 t (.tup [.int (i : Nat), xs.getD i .non])) := same_new (Same.refl H6) ht
              have el := hel _ (getD_mem (d := V.non) hi)
              have m7 : Same H5 (upd H6 t (.tup [.int (i : Nat), xs.getD i .non])) := e6.trans e7
              refine un2 upd_same ⟨el.tg.same m7, ?_⟩
              rw [isT_sm el.tg m7]
              cases hT : isT a.CT H5 (xs.getD i .non) with
              | false =>
                rw [if_pos (by decide)]
                exact k1 (badB_t.mpr (.inl hT)) _ e7
              | true =>
                rw [if_neg (by decide)]
                obtain ⟨R, w', t5, S5⟩ := el.sh hT
                obtain ⟨row, R0, rfl, hr⟩ := shp_row S5
                refine ⟨row, R0, t5.same m7, rfl, _, rfl, ?_⟩
                rw [hr]
                by_cases hw : w' = wd
                · rw [if_neg (by rw [hw, decide_eq_true rfl]; decide)]
                  refine k2 (badB_f.mpr fun z => ?_) _ e7
                  rcases z with z | ⟨R', w2, t2, S2, ne⟩
                  · rw [hT] at z
                    exact nomatch z
                  · have q := tb_one t5 t2
                    subst q
                    exact ne (((S2.row row (List.mem_cons_self ..)).1.symm.trans hr).trans hw)
                · rw [if_pos (by rw [dec_int]; simp; omega)]
                  exact k1 (badB_t.mpr (.inr ⟨_, w', t5, S5, hw⟩)) _ e7
            · exact tail H6 D e6 (by rw [h, List.map_map]; rfl)
          clear hC
          have seq : ∀ (l : Addr) (xs : List V), v = .ref l → PcAs H5 l xs →
              ((xs.length = 0 ∨ 6 < xs.length) → B { nx := fun x H' => Q V.non H', rt := Q } [some (.ref d), some (.int (wd : Nat)), some one, some other, some v, some pv, some (.str "pieces None"), none, none, none, none, none, none] H5) →
              (1 ≤ xs.length → xs.length ≤ 6 → C { nx := fun σ' H' => B { nx := fun x H' => Q V.non H', rt := Q } σ' H', rt := Q } [some (.ref d), some (.int (wd : Nat)), some one, some other, some v, some pv, none, none, none, none, none, none, none] H5) →
              rLenA K a.CT [v] H5 fun y H2 => ∃ x, y = .int x ∧ if decide (1 ≤ x) = true then ∃ i, y = .int i ∧ if (!decide (i ≤ 6)) = true then
                B { nx := fun x H' => Q V.non H', rt := Q } [some (.ref d), some (.int (wd : Nat)), some one, some other, some v, some pv, some (.str "pieces None"), none, none, none, none, none, none] H2
                else C { nx := fun σ' H' => B { nx := fun x H' => Q V.non H', rt := Q } σ' H', rt := Q } [some (.ref d), some (.int (wd : Nat)), some one, some other, some v, some pv, none, none, none, none, none, none, none] H2
              else if (!false) = true then B { nx := fun x H' => Q V.non H', rt := Q } [some (.ref d), some (.int (wd : Nat)), some one, some other, some v, some pv, some (.str "pieces None"), none, none, none, none, none, none] H2
                else C { nx := fun σ' H' => B { nx := fun x H' => Q V.non H', rt := Q } σ' H', rt := Q } [some (.ref d), some (.int (wd : Nat)), some one, some other, some v, some pv, none, none, none, none, none, none, none] H2 := by
            intro l xs hv hl hno hyes
            rw [hv] at hno hyes ⊢
            refine len_pc hl ⟨_, rfl, ?_⟩
            by_cases h1 : 1 ≤ xs.length
            · rw [if_pos (by simp; omega)]
              refine ⟨_, rfl, ?_⟩
              by_cases h6 : xs.length ≤ 6
              · rw [if_neg (by simp; omega)]
                exact hyes h1 h6
              · rw [if_pos (by simp; omega)]
                exact hno (.inr (by omega))
            · rw [if_neg (by simp; omega), if_pos (by decide)]
              exact hno (.inl (by omega))
          cases pc5 with
          | no g h =>
            refine ⟨_, rfl, ?_⟩
            rw [h, if_pos (by decide)]
            exact rest H5 _ none none e5 rfl
          | len ne hl hn hm =>
            refine ⟨_, rfl, ?_⟩
            rw [hl.isB, if_neg (by decide)]
            exact seq _ _ rfl hl (fun _ => rest H5 _ none none e5 rfl) fun h1 h2 => by omega
          | ok ne hl k1 k6 =>
            rename_i l k
            refine ⟨_, rfl, ?_⟩
            rw [hl.isB, if_neg (by decide)]
            exact seq _ _ rfl hl (fun h => by rw [List.length_replicate] at h; omega) fun h1 h2 => inner _ _ rfl hl h2 (fun x hx => by rw [(List.mem_replicate.mp hx).2]; exact el_tb P5.o1 S1) (.inl ⟨k, rfl, rfl⟩)
          | bad ne hl hn gy hy gs =>
            rename_i l i y ys
            refine ⟨_, rfl, ?_⟩
            rw [hl.isB, if_neg (by decide)]
            have hL : (List.replicate i one ++ y :: ys).length = i + ys.length + 1 := by rw [List.length_append, List.length_replicate, List.length_cons]; omega
            refine seq _ _ rfl hl (fun h => by rw [hL] at h; omega) fun h1 h2 => inner _ _ rfl hl h2 (fun x hx => ?_) ?_
            · rcases List.mem_append.mp hx with hx | hx
              · rw [(List.mem_replicate.mp hx).2]
                exact el_tb P5.o1 S1
              · rcases List.mem_cons.mp hx with rfl | hx
                · exact gy
                · exact gs x hx
            · obtain ⟨r, hr⟩ := kept_head (b := fun j => badB a H5 wd ((List.replicate i one ++ y :: ys).getD j .non)) (i := i) (fun j hj => by
                  rw [getD_app, if_pos (by rw [List.length_replicate]; exact hj), getD_rep hj]
                  refine badB_f.mpr fun z => ?_
                  rcases z with z | ⟨R', w2, t2, S2', ne⟩
                  · rw [P5.o1.isT] at z
                    exact nomatch z
                  · have qe := tb_one P5.o1 t2
                    subst qe
                    obtain ⟨row, R0, he, hr⟩ := shp_row S1
                    rw [he] at S2'
                    exact ne ((S2'.row row (List.mem_cons_self ..)).1.symm.trans hr)) (by
                  rw [getD_app, if_neg (by rw [List.length_replicate]; omega), if_pos (by rw [List.length_replicate])]
                  exact badB_t.mpr (hy.elim .inl fun ⟨_, z⟩ => .inr z)) (n := (List.replicate i one ++ y :: ys).length) (by rw [hL]; omega)
              exact .inr ⟨i, r, by omega, hr, rfl⟩
        clear hB
        walk_at "r0"
        exact ⟨d, sc0, wd, rfl, P3.dr, w1, by omega, fun pv H4 gp x4 d4 => rest H4 pv (P3.xx x4 d4) (pc3.mv (Mv.ofX x4 P3.dr d4)) gp⟩
      clear hB
      walk_at "r0"
      refine ⟨by decide, fun q1 hq1 => ?_⟩
      have e3 := same_new (o := .lst [one]) (Same.refl H2) hq1
      have P3 := P2.same e3
      have A3 := AllPc.nil.add (PcV.ok (a := a) (n := n) (wd := wd) (one := one) (k := 1) (P2.dr.nw hq1) (.inl (upd_same : upd H2 q1 (.lst [one]) q1 = _)) (by decide) (by decide))
      generalize upd H2 q1 (.lst [one]) = H3 at P3 A3 ⊢
      refine ⟨by decide, fun q2 hq2 => ?_⟩
      have e4 := same_new (o := .tup [one, one]) (Same.refl H3) hq2
      have P4 := P3.same e4
      have A4 := (A3.mv (Mv.ofS e4 P3.dr)).add (PcV.ok (a := a) (n := n) (wd := wd) (one := one) (k := 2) (P3.dr.nw hq2) (.inr (upd_same : upd H3 q2 (.tup [one, one]) q2 = _)) (by decide) (by decide))
      generalize upd H3 q2 (.tup [one, one]) = H4 at P4 A4 ⊢
      refine ⟨by decide, fun q3 hq3 => ⟨_, upd_same, by decide, by decide, by show 1 * 6 ≤ sizeLine; decide, fun q4 hq4 => ?_⟩⟩
      rw [flat_rep]
      have e5 := same_new (o := .lst [one]) (Same.refl H4) hq3
      have P5 := P4.same e5
      generalize upd H4 q3 (.lst [one]) = H5 at e5 P5 hq4 ⊢
      have e6 := same_new (o := .lst (List.replicate (Int.toNat 6) one)) (Same.refl H5) hq4
      have P6 := P5.same e6
      have A6 := ((A4.mv (Mv.ofS e5 P4.dr)).mv (Mv.ofS e6 P5.dr)).add (PcV.ok (a := a) (n := n) (wd := wd) (one := one) (k := 6) (P5.dr.nw hq4) (.inl (upd_same : upd H5 q4 (.lst (List.replicate (Int.toNat 6) one)) q4 = _)) (by decide) (by decide))
      generalize upd H5 q4 (.lst (List.replicate (Int.toNat 6) one)) = H6 at P6 A6 ⊢
      refine ⟨by decide, fun q5 hq5 => ⟨_, upd_same, by decide, by decide, by show 1 * 7 ≤ sizeLine; decide, fun q6 hq6 => ?_⟩⟩
      rw [flat_rep]
      have e7 := same_new (o := .lst [one]) (Same.refl H6) hq5
      have P7 := P6.same e7
      generalize upd H6 q5 (.lst [one]) = H7 at e7 P7 hq6 ⊢
      have e8 := same_new (o := .lst (List.replicate (Int.toNat 7) one)) (Same.refl H7) hq6
      have P8 := P7.same e8
      have A8 := ((A6.mv (Mv.ofS e7 P6.dr)).mv (Mv.ofS e8 P7.dr)).add (PcV.len (a := a) (n := n) (wd := wd) (one := one) (P7.dr.nw hq6) (.inl (upd_same : upd H7 q6 (.lst (List.replicate (Int.toNat 7) one)) q6 = _)) (.inr (by rw [List.length_replicate]; decide)) (by rw [List.length_replicate]; decide))
      generalize upd H7 q6 (.lst (List.replicate (Int.toNat 7) one)) = H8 at P8 A8 ⊢
      refine ⟨Nat.zero_le _, fun q7 hq7 => ?_⟩
      have e9 := same_new (o := .lst []) (Same.refl H8) hq7
      have P9 := P8.same e9
      have A9 := (A8.mv (Mv.ofS e9 P8.dr)).add (PcV.len (a := a) (n := n) (wd := wd) (one := one) (P8.dr.nw hq7) (.inl (upd_same : upd H8 q7 (.lst []) q7 = _)) (.inl rfl) (Nat.zero_le _))
      generalize upd H8 q7 (.lst []) = H9 at P9 A9 ⊢
      refine ⟨by decide, fun q8 hq8 => ?_⟩
      have e10 := same_new (o := .lst [one, other]) (Same.refl H9) hq8
      have P10 := P9.same e10
      have A10 := (A9.mv (Mv.ofS e10 P9.dr)).add (PcV.bad (a := a) (n := n) (wd := wd) (one := one) (i := 1) (y := other) (ys := []) (P9.dr.nw hq8) (.inl (upd_same : upd H9 q8 (.lst [one, other]) q8 = _)) (by decide) (el_tb P10.o2 S2) (.inr ⟨by decide, _, _, P10.o2, S2, by omega⟩) nofun)
      generalize upd H9 q8 (.lst [one, other]) = H10 at P10 A10 ⊢
      refine ⟨by decide, fun q9 hq9 => ?_⟩
      have e11 := same_new (o := .lst [one, .non, one]) (Same.refl H10) hq9
      have P11 := P10.same e11
      have A11 := (A10.mv (Mv.ofS e11 P10.dr)).add (PcV.bad (a := a) (n := n) (wd := wd) (one := one) (i := 1) (y := .non) (ys := [one]) (P10.dr.nw hq9) (.inl (upd_same : upd H10 q9 (.lst [one, .non, one]) q9 = _)) (by rw [List.length_singleton]; decide) ⟨.non, nofun⟩ (.inl rfl) (fun x hx => by
        rw [List.mem_singleton.mp hx]
        exact el_tb P11.o1 S1))
      generalize upd H10 q9 (.lst [one, .non, one]) = H11 at P11 A11 ⊢
      refine ⟨d, sc0, rfl, P11.dr, fun vo H12 o x12 d12 => ?_⟩
      have P12 := P11.xx x12 d12
      obtain ⟨fo, pco⟩ := pcv_odd (one := one) (n := n) (wd := wd) d12 o
      have A12 := (A11.mv (Mv.ofX x12 P11.dr d12)).add pco
      intro q10 hq10
      refine ⟨one, rfl, upd_same, [(Sum.inl 0, one)], rfl, by rw [List.length_singleton]; decide, ?_⟩
      have e13 : Same H12 (upd (upd H12 q10 (.dK [])) q10 (.dK (mergeK [] [(Sum.inl 0, one)]))) := fun b o hb => by
        rw [upd_ne (ne_of_none hb hq10), upd_ne (ne_of_none hb hq10)]
        exact hb
      have P13 := P12.same e13
      have hd13 : upd (upd H12 q10 (.dK [])) q10 (.dK (mergeK [] [(Sum.inl 0, one)])) q10 = some (.dK (mergeK [] [(Sum.inl 0, one)])) := upd_same
      have A13 := (A12.mv (Mv.ofS e13 P12.dr)).add (PcV.no (a := a) (d := d) (n := n) (wd := wd) (one := one) (.dK hd13) (by unfold isB; simp only [hd13]; rfl))
      generalize upd (upd H12 q10 (.dK [])) q10 (.dK (mergeK [] [(Sum.inl 0, one)])) = H13 at P13 A13 ⊢
      refine ⟨by decide, fun q11 hq11 => ?_⟩
      have e14 := same_new (o := .lst [.ref q1, .ref q2, .ref q4, .ref q6, .ref q7, .ref q8, .ref q9, vo, .ref q10]) (Same.refl H13) hq11
      have A14 := A13.mv (Mv.ofS e14 P13.dr)
      have P14 := P13.same e14
      refine ⟨d, q11, sc0, _, rfl, P14.dr, upd_same, Nat.succ_pos _, P13.dr.nw hq11, fun i H15 hi x15 d15 => ?_⟩
      obtain ⟨fv, pcv⟩ := A14 _ (getD_mem (d := V.non) hi)
      exact rest H15 _ fv (P14.xx x15 d15) (pcv.mv (Mv.ofX x15 P14.dr d15))
    clear hB
    walk_at "r0"
    refine ⟨by decide, fun p2 hp2 => ⟨.int 0, upd_same, by omega, by omega, fun r2 H2 e2 h2 => ⟨by decide, fun p3 hp3 => ?_⟩⟩⟩
    have f3 : Same H1 (upd H2 p3 (.lst [.ref r2])) := fun b o hb => same_new (Same.refl H2) hp3 b o (e2 b o (same_new (Same.refl H1) hp2 b o hb))
    have h3 : upd H2 p3 (.lst [.ref r2]) p3 = some (.lst [.ref r2]) := upd_same
    have r3 := same_new (o := .lst [.ref r2]) (Same.refl H2) hp3 _ _ h2
    have n3 : p3 ≠ d := (d1.same (fun b o hb => e2 b o (same_new (Same.refl H1) hp2 b o hb))).nw hp3
    generalize upd H2 p3 (.lst [.ref r2]) = H3 at f3 h3 r3 ⊢
    have d3 := d1.same f3
    refine ⟨d, sc0, 4, rfl, d3, by decide, fun y H4 x4 d4 a4 b4 => ⟨y, rfl, _, x4 _ _ h3 n3, by omega, by omega, ?_, fun p5 hp5 => ?_⟩⟩
    · show 1 * (1 + y).toNat ≤ sizeLine
      exact Nat.le_of_lt (small1000 (by omega))
    have x1' := (x1.same f3).trans x4
    have T4 := tabs_x (T1.ext f3) d3 x4
    have r4 := x4 _ _ r3 (d3.ne r3 fun _ _ => nofun)
    rw [rep_map] at r4
    have n1 : 1 ≤ (1 + y).toNat := by omega
    have n4 : (1 + y).toNat ≤ 4 := by omega
    generalize (1 + y).toNat = n at n1 n4 ⊢
    rw [flat_rep]
    have e5 := same_new (o := .lst (List.replicate n (V.ref r2))) (Same.refl H4) hp5
    have h5 : upd H4 p5 (.lst (List.replicate n (V.ref r2))) p5 = some (.lst ((List.replicate n r2).map V.ref)) := by rw [upd_same, List.map_replicate]
    generalize upd H4 p5 (.lst (List.replicate n (V.ref r2))) = H5 at e5 h5 ⊢
    refine ⟨_, h5, _, rows_rep (show RowAt H5 r2 (List.replicate wd 0) from e5 _ _ r4) n, wd, shp_zero n1 (by omega) w1 (by omega), fun one H6 e6 t6 => ⟨by decide, fun p7 hp7 => ⟨.int 0, upd_same, by omega, by omega, fun r7 H7 e7 h7 => ⟨by decide, fun p8 hp8 => ?_⟩⟩⟩⟩
    have e67 : Same H6 H7 := fun b o hb => e7 b o (same_new (Same.refl H6) hp7 b o hb)
    have e8 := same_new (o := .lst [.ref r7]) (Same.refl H7) hp8
    have h8 : upd H7 p8 (.lst [.ref r7]) p8 = some (.lst ([r7].map V.ref)) := upd_same
    rw [show ((wd : Int) + 1).toNat = wd + 1 by omega, rep_map] at h7
    generalize upd H7 p8 (.lst [.ref r7]) = H8 at e8 h8 ⊢
    refine ⟨_, h8, [List.replicate (wd + 1) 0], .cons (show RowAt H8 r7 (List.replicate (wd + 1) 0) from e8 _ _ h7) .nil, wd + 1, shp_zero (n := 1) (by omega) (by omega) (by omega) (by omega), fun other H9 e9 t9 => ⟨_, _, ⟨rfl, rfl⟩, ?_⟩⟩
    have E := ((e5.trans e6).trans e67).trans (e8.trans e9)
    exact rest H9 one other n ⟨x1'.same E, d4.same E, T4.ext E, t6.same (e67.trans (e8.trans e9)), t9⟩ n1 n4
end
end G


set_option Elab.async false
set_option linter.all false
set_option maxRecDepth 100000
set_option maxHeartbeats 4000000
set_option pp.deepTerms true
set_option pp.maxSteps 100000
set_option format.width 230
namespace G
open PySem PySem.Spec PyProof.Rows L2
local macro_rules | `(tactic| walk_at "rd") => `(tactic| try simp only [cxOf_K, tSeq, tIfS, tTest, tB, tCB, tCons, tNil, tC, tVar, tOp, tUn, tAndV, tOrV, tNotV, tAnd, tOr, tNot, tIf, tChain, tRet, tRetN, tAsg, gName, tDrop, tNext, tCallS, WE, rI0, rI, rU, L2.start, tYes, tLc, tFor, gTup, gCons, gNil, tPar, tPar3, tAug, ipI, tWidth, tCall, tMeth, tMake, tFld, tRows, tTable, sFld, rMulT, rSumT, gSub, tBM, rAppend, rSetL, rExtend, rSlL, rSlQ, tCol, Int.toNat_natCast,  tSl, tNoPart, tPart, tTup, tLst, tNever, itu_g, sDPut, tDNewK, tDNewN, tDispN, rSetN, rIxN, rInN, tGetN, rGetN, iKN, iIN, iRg3, iRng3, rGetL, tAugS, tNo, rCopyN, rRep,
  List.map_cons, List.map_nil, List.length_cons, List.length_nil, List.cons_append, List.nil_append, List.replicate, Nat.reduceAdd, Nat.reduceSub, Nat.zero_add, Nat.sub_self,
  List.getElem?_cons_zero, List.getElem?_cons_succ, List.set_cons_zero, List.set_cons_succ, wipe, Option.some.injEq, exists_eq_left', exists_eq_left, V.bl.injEq, V.int.injEq, ref_inj, ty_inj, if_true, if_false, Bool.false_eq_true, Bool.true_eq_false, exists_const, exists_and_left, true_and, and_true, List.cons.injEq,
  isB_int, isB_bool, isB_tuple, isB_list, isT_at, iSq, iRg1, iRg2, iZ2, iZ3, iEn])
local macro_rules | `(tactic| walk_at "r1") => `(tactic| try simp only [cxOf_K, tSeq, tIfS, tTest, tB, tCB, tCons, tNil, tC, tVar, tOp, tUn, tAndV, tOrV, tNotV, tAnd, tOr, tNot, tIf, tChain, tRet, tRetN, tAsg, gName, tDrop, tNext, tCallS, WE, rI0, rI, rU, L2.start, tYes, gTup, gCons, gNil, tPar, tPar3, tAug, ipI, tWidth, tCall, tMeth, tMake, tFld, tRows, tTable, sFld, rMulT, rSumT, gSub, tBM, rAppend, rSetL, rExtend, rSlL, rSlQ, tCol, Int.toNat_natCast,  tSl, tNoPart, tPart, tTup, tLst, tNever, itu_g, sDPut, tDNewK, tDNewN, tDispN, rSetN, rIxN, rInN, tGetN, rGetN, iKN, iIN, iRg3, iRng3, rGetL, tAugS, tNo, rCopyN, rRep,
  List.map_cons, List.map_nil, List.length_cons, List.length_nil, List.cons_append, List.nil_append, List.replicate, Nat.reduceAdd, Nat.reduceSub, Nat.zero_add, Nat.sub_self,
  List.getElem?_cons_zero, List.getElem?_cons_succ, List.set_cons_zero, List.set_cons_succ, wipe, Option.some.injEq, exists_eq_left', exists_eq_left, V.bl.injEq, V.int.injEq, ref_inj, ty_inj, if_true, if_false, Bool.false_eq_true, Bool.true_eq_false, exists_const, exists_and_left, true_and, and_true, List.cons.injEq,
  isB_int, isB_bool, isB_tuple, isB_list, isT_at, iSq, iRg1, iRg2, iZ2, iZ3, iEn])
local macro_rules | `(tactic| walk_at "r0") => `(tactic| try simp only [cxOf_K, tIfS, tTest, tB, tCB, tCons, tNil, tC, tVar, tOp, tUn, tAndV, tOrV, tNotV, tAnd, tOr, tNot, tIf, tChain, tRet, tRetN, tAsg, gName, tDrop, tNext, tCallS, WE, rI0, rI, rU, L2.start, tYes, gTup, gCons, gNil, tPar, tPar3, tAug, ipI, tWidth, tCall, tMeth, tMake, tFld, tRows, tTable, sFld, rMulT, rSumT, gSub, tBM, rAppend, rSetL, rExtend, rSlL, rSlQ, tCol, Int.toNat_natCast,  tSl, tNoPart, tPart, tTup, tLst, tNever, itu_g, sDPut, tDNewK, tDNewN, tDispN, rSetN, rIxN, rInN, tGetN, rGetN, iKN, iIN, iRg3, iRng3, rGetL, tAugS, tNo, rCopyN, rRep,
  List.map_cons, List.map_nil, List.length_cons, List.length_nil, List.cons_append, List.nil_append, List.replicate, Nat.reduceAdd, Nat.reduceSub, Nat.zero_add, Nat.sub_self,
  List.getElem?_cons_zero, List.getElem?_cons_succ, List.set_cons_zero, List.set_cons_succ, wipe, Option.some.injEq, exists_eq_left', exists_eq_left, V.bl.injEq, V.int.injEq, ref_inj, ty_inj, if_true, if_false, Bool.false_eq_true, Bool.true_eq_false, exists_const, exists_and_left, true_and, and_true, List.cons.injEq,
  isB_int, isB_bool, isB_tuple, isB_list, isT_at, iSq, iRg1, iRg2, iZ2, iZ3, iEn])
local macro_rules | `(tactic| walk_at "st") => `(tactic| ((try dsimp only); rw [tSeq_def]))
local macro_rules | `(tactic| walk_at "lp") => `(tactic| first | rw [tFor_def] | rw [tLc_def] | rw [tWhile_def])
local macro_rules | `(tactic| walk_at "ex") => `(tactic| simp only [List.cons.injEq, and_true, true_and, and_assoc, exists_and_left, exists_eq_left', exists_eq_left, exists_eq_right, exists_const, V.int.injEq, V.bl.injEq, ref_inj, Bool.not_true, Bool.not_false, Bool.false_eq_true, if_true, if_false, Bool.true_eq_false])
section
variable {P : Program} {w : World} {K : PySem.W.Frag} {mg : Str → Option Value} {base : Heap} {a : Ad}
open LamX NdefX
theorem opK_eqD2 {X : Cx} {K : PySem.W.Frag} (hK : X.K = K) (hu : X.A.units + 64 < cLine) : OpR X (compareOp .Eq) (rEqD K) := by
  subst hK
  exact op_eqD hu
theorem fw_app : ∀ {ws vs : List Str}, firstW (firstW ws :: vs) = firstW (ws ++ vs)
  | [], vs => by rw [fw_nil, fw_none]; rfl
  | x :: ws, vs => by
    by_cases h : x = "none"
    · rw [h, fw_none, List.cons_append, fw_none]
      exact fw_app
    · rw [fw_ne h, List.cons_append, fw_ne h, fw_ne h]
section
variable {a : Ad} {H : Hp} {Q : VK} {tv u : V} {R R' : List (List Int)} {w w' : Nat} {wh late : Str}
theorem out_j (t1 : TabV a H tv R wh) (t2 : TabV a H u R' late) (S : Shp R w) (S' : Shp R' w') (q : ∀ H', Same H H' → Q (.str (firstW [wh, late, okW (srtB R && srtB R') "order"])) H') {ok : List (List Int) → Nat → List (List Int) → Nat → Prop} (hok : (∀ H', Same H H' → Q (.str "none") H') → ok R w R' w') :
    PreJ a H (wordE a Q) tv u ok := by
  refine ⟨t1.tg, t2.tg, fun h => tab_no t1 h q, fun h h2 => tab_no t2 h2 (tab_yes t1 h q).2, fun h h2 => ?_⟩
  obtain ⟨T1, q1⟩ := tab_yes t1 h q
  obtain ⟨T2, q2⟩ := tab_yes t2 h2 q1
  exact ⟨R, w, R', w', T1, S, T2, S', fun h => rz_order (ok_no h q2), fun h => hok (ok_yes h q2)⟩
theorem out_jg {p l : Int} (t1 : TabV a H tv R wh) (t2 : TabV a H u R' late) (S : Shp R w) (S' : Shp R' w') (q : ∀ H', Same H H' → Q (.str (firstW [wh, late, okW (srtB R && srtB R') "order", okW (isNum (.int p) 0 ((w : Int) - 1)) "column", okW (isNum (.int l) 0 ((w' : Int) - 1)) "column"])) H') :
    spJG a [tv, u, .int p, .int l] H (fun _ H' => Q (.str "none") H') (wordE a Q) := by
  refine ⟨tv, u, .int p, .int l, rfl, .int p, .int l, t1.tg, t2.tg, fun h => tab_no t1 h q, fun h h2 => tab_no t2 h2 (tab_yes t1 h q).2, fun h h2 => ?_⟩
  obtain ⟨T1, q1⟩ := tab_yes t1 h q
  obtain ⟨T2, q2⟩ := tab_yes t2 h2 q1
  refine ⟨R, w, R', w', T1, S, T2, S', fun h => rz_order (ok_no h q2), fun h => ?_⟩
  have q3 := ok_yes h q2
  exact ⟨fun hp => rz_column (ok_no hp q3), fun hp hl => rz_column (ok_no hl (ok_yes hp q3)), fun hp hl z H' e => ok_yes hl (ok_yes hp q3) H' e⟩
end
theorem TabV.mv {a : Ad} {sc0 d : Addr} {H H' : Hp} {v : V} {R : List (List Int)} {wh : Str} (t : TabV a H v R wh) (m : Mv K sc0 d H H') : TabV a H' v R wh := by
  rcases t with ⟨rfl, o⟩ | ⟨rfl, t⟩
  · refine .inl ⟨rfl, ?_⟩
    cases o with
    | non => exact .non
    | bl b => exact .bl b
    | int i => exact .int i
    | str s => exact .str s
    | lst h hn => exact .lst (m.x _ _ h (m.dr.ne h ints_no) fun _ => nofun) hn
    | tup h h1 h2 => exact .tup (m.x _ _ h (m.dr.ne h fun _ _ => nofun) fun _ => nofun) h1 h2
    | tt h ht => exact .tt (m.x _ _ h (m.dr.ne h fun _ _ => nofun) fun _ => nofun) (m.x _ _ ht (m.dr.ne ht fun _ _ => nofun) fun _ => nofun)
    | dK h => exact .dK (m.x _ _ h (m.dr.ne h fun _ _ => nofun) fun _ => nofun)
  · exact .inr ⟨rfl, m.tb t⟩
/-- [row[0] for row in rows] -/
theorem lc_col0 {H : Hp} {l : Addr} {ts : List Addr} {R : List (List Int)} {w : Nat} {Q : Addr → Hp → Prop} (hl : H l = some (.lst (ts.map V.ref))) (hp : Paired (RowAt H) ts R) (S : Shp R w) (h : ∀ H' D, Same H H' → H' D = some (.lst ((col R 0).map V.int)) → Q D H') :
    ∃ t xs, SqA K t H l xs ∧ ∀ D, H D = none → ∃ W : Nat → Nat → Hp → Prop, (∃ m, W 0 m (upd H D (.lst []))) ∧ ∀ i m H, W i m H → ((ItG xs.length (fun H => SqA K t H l xs) (yV fun i => xs.getD i .non)).stop i H ∧ Q D H) ∨
      ((ItG xs.length (fun H => SqA K t H l xs) (yV fun i => xs.getD i .non)).go i H ∧ ∃ Nx : Hp → Prop, (∀ H', Nx H' → ∃ m', m' < m ∧ W (i + 1) m' H') ∧ ∀ x H', (ItG xs.length (fun H => SqA K t H l xs) (yV fun i => xs.getD i .non)).yld i H x H' →
        rIx K x (.int 0) H' fun y H4 => ∃ acc, H4 D = some (.lst acc) ∧ acc.length < sizeLine ∧ Nx (upd H4 D (.lst (acc ++ [y])))) := by
  have hlen : (ts.map V.ref).length = R.length := by rw [List.length_map, hp.length]
  refine ⟨true, _, sqA_l hl, fun D hD => ?_⟩
  refine lcA (fun i => .int ((col R 0).getD i 0)) hD (by rw [hlen]; have := S.le; omega) (fun H' e => sqA_l (e _ _ hl)) (fun i u H8 H9 acc Nx hi e8 ha y k1 => ?_) (fun H8 e8 h8 => ?_)
  · simp only [yV] at y
    obtain ⟨rfl, rfl⟩ := y
    rw [hlen] at hi
    obtain ⟨t, h1, h2, h3⟩ := rowAt hp hi
    rw [h1]
    have hw := row_of S hi
    have w1 := S.w1
    refine ix_t (e8 _ _ h3) (atI_ints (i := 0) (by rw [hw]; omega)) ?_
    have e : (R.getD i []).getD 0 0 = (col R 0).getD i 0 := by
      unfold col
      rw [List.getD_eq_getElem?_getD (l := R.map _), List.getElem?_map, List.getD_eq_getElem?_getD (l := R), List.getElem?_eq_getElem hi]
      rfl
    rw [e]
    exact k1 _ (Same.refl _)
  · refine h H8 D e8 ?_
    rw [h8, hlen]
    have e := range_getD (col R 0) 0
    rw [col_len] at e
    conv => rhs; rw [← e]
    rw [List.map_map]
    rfl
theorem sorted_col {H : Hp} {D D2 : Addr} {R : List (List Int)} {G : VK} (hD : H D = some (.lst ((col R 0).map V.int))) (hD2 : H D2 = some (.lst ((col R 0).map V.int))) (hn : R.length ≤ 10) (h : ∀ H', Same H H' → G (.bl (srtB R)) H') :
    rSorted K [.ref D2] H fun y H2 => rEqD K (.ref D) y H2 G := by
  refine ⟨D2, _, rfl, SqL.of hD2, by rw [col_len]; omega, fun ns p hp hs hn => ?_⟩
  have e := same_new (o := .lst (ns.map V.int)) (Same.refl H) hn
  refine eq_ints (e _ _ hD) upd_same ?_
  rw [srt_eq hp hs]
  exact h _ e
theorem lay_fw : ∀ {ws : List Str}, (∀ x ∈ ws, PyData.canLay0 (.str x) = true) → Lay (firstW ws)
  | [], _ => lay_none
  | x :: ws, h => by
    by_cases hx : x = "none"
    · rw [hx, fw_none]
      exact lay_fw fun y hy => h y (List.mem_cons_of_mem _ hy)
    · rw [fw_ne hx]
      exact h x (List.mem_cons_self ..)
theorem isn_lt {i : Int} {n : Nat} (h : 0 ≤ i) : isNum (.int i) 0 ((n : Int) - 1) = decide (i < n) := by
  rw [isNum_int, decide_eq_true h, Bool.true_and, Bool.eq_iff_iff, decide_eq_true_eq, decide_eq_true_eq]
  omega
/-- _law_joins_right(draw, table, word, rows) -/
abbrev N__law_joins_right : List Str := ["_law_draw", "_law_table", "_law_word_here", "_law_rows_here", "_law_theirs", "_law_other", "_law_late", "_law_is_sorted", "_law_due", "_law_calls", "_law_one", "_law_place", "_law_columns", "_law_row", "_law_call"]
set_option maxHeartbeats 16000000 in
theorem ok_law_joins_right {g c P0 : Addr} {T0 : List (Addr × Str)} (D : DefC K mg "_law_joins_right" 83 c) (T : Txt K mg a) (M : TabM P w K mg base a.CT) (W : WordOk P w K mg base a 8 g ∧ mg "_law_word" = some (.ref g) ∧ PySem.W.keepIn K (.ref g) = true)
    (TB : Tbs base mg T0 c P0 ((("_law_joins_right" : Str) ++ ".<locals>.") ++ "<lambda>")) (c_Table : MkX P w K mg base 4 "Table" a.CT (spInit a.CT))
    (c__law_take : CalX P w K mg base 4 "_law_take" (spLt K)) (c__law_rows : CalX P w K mg base 5 "_law_rows" (spLr K a)) (c__law_odd : CalX P w K mg base 6 "_law_odd" (spLo K a)) (c__law_first : CalX P w K mg base 1 "_law_first" spLf)
    (c_join_pairs : CalX P w K mg base 7 "join_pairs" (spJ a)) (c_join_count : CalX P w K mg base 7 "join_count" (spJ a)) (c_join_runs : CalX P w K mg base 7 "join_runs" (spJ a)) (c_join_looks : CalX P w K mg base 6 "join_looks" (spJ a)) (c_lonely : CalX P w K mg base 7 "lonely" (spJ a))
    (c_join_groups : CalX P w K mg base 7 "join_groups" (spJG a)) : CalX P w K mg base 10 "_law_joins_right" (spTR K a T0) := by
  refine calxC (N := N__law_joins_right) (ps := ["_law_draw", "_law_table", "_law_word_here", "_law_rows_here"]) D (by decide +kernel) (fun vs H Q E h => ?_) (fun _ _ _ _ _ _ us hl => match us, hl with | [_, _, _, _], _ => rfl) (fun f A outer s H vs Q E hr nd tk pn h => ⟨_, (pss_cons (ps_set (i := 4) nd rfl (Or.inl rfl) (pe_cx c__law_rows hr (by decide) tk (pa_cons (pv 0) (pa_cons pe_int pa_nil))))
      (pss_cons (ps_asg (pe_ifExp (pt_cmpR op_eq (pe_cx c__law_take hr (by decide) tk (pa_cons (pv 0) (pa_cons pe_int pa_nil))) pe_int (nomark _)) (pe_tup (pa_cons (pe_cx c__law_odd hr (by decide) tk (pa_cons (pv 0) pa_nil)) (pa_cons pe_str pa_nil))) (pe_tup (pa_cons (pe_mkTable c_Table hr (by decide) (pa_cons (pv 4) pa_nil)) (pa_cons pe_str pa_nil)))) (pg_tupK (K := K) (n := 2) rfl rfl (pgs_cons (pg_name (i := 5) nd rfl (Or.inr rfl)) (pgs_cons (pg_name (i := 6) nd rfl (Or.inl rfl)) pgs_nil))))
      (pss_cons (ps_set (i := 7) nd rfl (Or.inl rfl) (pe_cmpR (opK_eqD2 (K := K) rfl hr.units) (pe_lc (own := [("_law_row", 13)]) rfl nd (piK_sq (K := K) rfl (pv 3)) (blkOk_by (own := [("_law_row", 13)]) (N := N__law_joins_right) (sc := defScope (top 83)) (by decide +kernel)) (fun _ _ _ _ _ => (pg_name (i := 13) nd rfl (Or.inl rfl))) (fun _ _ _ _ _ => pts_nil) (fun _ _ _ _ _ => (pe_ix (ixK (K := K) rfl) (pv 13) pe_int (fun _ _ => rfl)))) (pe_callB (crK_sorted (K := K) rfl) (by rfl) T.sorted bi_sorted (pa_cons (pe_lc (own := [("_law_row", 13)]) rfl nd (piK_sq (K := K) rfl (pv 3)) (blkOk_by (own := [("_law_row", 13)]) (N := N__law_joins_right) (sc := defScope (top 83)) (by decide +kernel)) (fun _ _ _ _ _ => (pg_name (i := 13) nd rfl (Or.inl rfl))) (fun _ _ _ _ _ => pts_nil) (fun _ _ _ _ _ => (pe_ix (ixK (K := K) rfl) (pv 13) pe_int (fun _ _ => rfl)))) pa_nil)) (nomark _)))
      (pss_cons (ps_set (i := 7) nd rfl (Or.inl rfl) (pe_and (pv 7) (pe_one (pe_cmpR (opK_eqD2 (K := K) rfl hr.units) (pe_lc (own := [("_law_row", 13)]) rfl nd (piK_sq (K := K) rfl (pv 4)) (blkOk_by (own := [("_law_row", 13)]) (N := N__law_joins_right) (sc := defScope (top 83)) (by decide +kernel)) (fun _ _ _ _ _ => (pg_name (i := 13) nd rfl (Or.inl rfl))) (fun _ _ _ _ _ => pts_nil) (fun _ _ _ _ _ => (pe_ix (ixK (K := K) rfl) (pv 13) pe_int (fun _ _ => rfl)))) (pe_callB (crK_sorted (K := K) rfl) (by rfl) T.sorted bi_sorted (pa_cons (pe_lc (own := [("_law_row", 13)]) rfl nd (piK_sq (K := K) rfl (pv 4)) (blkOk_by (own := [("_law_row", 13)]) (N := N__law_joins_right) (sc := defScope (top 83)) (by decide +kernel)) (fun _ _ _ _ _ => (pg_name (i := 13) nd rfl (Or.inl rfl))) (fun _ _ _ _ _ => pts_nil) (fun _ _ _ _ _ => (pe_ix (ixK (K := K) rfl) (pv 13) pe_int (fun _ _ => rfl)))) pa_nil)) (nomark _)))))
      (pss_cons (ps_set (i := 8) nd rfl (Or.inr rfl) (pe_cx c__law_first hr (by decide) tk (pa_cons (pe_lst (pa_cons (pv 2) (pa_cons (pv 6) (pa_cons (pe_ifExp (pt_val (pv 7)) pe_str pe_str) pa_nil)))) pa_nil)))
      (pss_cons (ps_set (i := 9) nd rfl (Or.inl rfl) (pe_lst (pa_cons (pe_lamL (N := ["_law_ka", "_law_table", "_law_other"]) (fr := ["_law_table", "_law_other"]) (js := [1, 5]) (x := "_law_ka") (k := 7) (P := P) (w := w) (K := K) (mg := mg) (base := base) rfl rfl rfl rfl rfl TB rfl rfl (show ndefB (defScope (top 83)) _ _ = true by decide +kernel) rfl (nscope_by (by decide +kernel)) (fun _ _ _ _ _ us hl => match us, hl with | [_], _ => rfl)
        (fun c' f A outer s H E hr tk => (pe_cx c_join_pairs hr (by decide) tk (pa_cons (pv 1) (pa_cons (pv 2) pa_nil))))) (pa_cons (pe_lamL (N := ["_law_kb", "_law_table", "_law_other"]) (fr := ["_law_table", "_law_other"]) (js := [1, 5]) (x := "_law_kb") (k := 7) (P := P) (w := w) (K := K) (mg := mg) (base := base) rfl rfl rfl rfl rfl TB rfl rfl (show ndefB (defScope (top 83)) _ _ = true by decide +kernel) rfl (nscope_by (by decide +kernel)) (fun _ _ _ _ _ us hl => match us, hl with | [_], _ => rfl)
        (fun c' f A outer s H E hr tk => (pe_cx c_join_count hr (by decide) tk (pa_cons (pv 1) (pa_cons (pv 2) pa_nil))))) (pa_cons (pe_lamL (N := ["_law_kc", "_law_table", "_law_other"]) (fr := ["_law_table", "_law_other"]) (js := [1, 5]) (x := "_law_kc") (k := 7) (P := P) (w := w) (K := K) (mg := mg) (base := base) rfl rfl rfl rfl rfl TB rfl rfl (show ndefB (defScope (top 83)) _ _ = true by decide +kernel) rfl (nscope_by (by decide +kernel)) (fun _ _ _ _ _ us hl => match us, hl with | [_], _ => rfl)
        (fun c' f A outer s H E hr tk => (pe_cx c_join_runs hr (by decide) tk (pa_cons (pv 1) (pa_cons (pv 2) pa_nil))))) pa_nil)))))
      (pss_cons (ps_set (i := 9) nd rfl (Or.inl rfl) (pe_op op_cat (pv 9) (pe_lst (pa_cons (pe_lamL (N := ["_law_kd", "_law_table", "_law_other"]) (fr := ["_law_table", "_law_other"]) (js := [1, 5]) (x := "_law_kd") (k := 7) (P := P) (w := w) (K := K) (mg := mg) (base := base) rfl rfl rfl rfl rfl TB rfl rfl (show ndefB (defScope (top 83)) _ _ = true by decide +kernel) rfl (nscope_by (by decide +kernel)) (fun _ _ _ _ _ us hl => match us, hl with | [_], _ => rfl)
        (fun c' f A outer s H E hr tk => (pe_cx c_join_looks hr (by decide) tk (pa_cons (pv 1) (pa_cons (pv 2) pa_nil))))) (pa_cons (pe_lamL (N := ["_law_ke", "_law_table", "_law_other"]) (fr := ["_law_table", "_law_other"]) (js := [1, 5]) (x := "_law_ke") (k := 7) (P := P) (w := w) (K := K) (mg := mg) (base := base) rfl rfl rfl rfl rfl TB rfl rfl (show ndefB (defScope (top 83)) _ _ = true by decide +kernel) rfl (nscope_by (by decide +kernel)) (fun _ _ _ _ _ us hl => match us, hl with | [_], _ => rfl)
        (fun c' f A outer s H E hr tk => (pe_cx c_lonely hr (by decide) tk (pa_cons (pv 1) (pa_cons (pv 2) pa_nil))))) pa_nil)))))
      (pss_cons (ps_if (pt_val (pe_callB (crK_any (K := K) rfl rfl) (by rfl) T.any bi_any (pa_cons (pe_lcS (own := [("_law_call", 14)]) rfl nd (piK_sq (K := K) rfl (pv 9)) (blkOk_by (own := [("_law_call", 14)]) (N := N__law_joins_right) (sc := defScope (top 83)) (by decide +kernel)) (fun _ _ _ _ _ => (pg_name (i := 14) nd rfl (Or.inl rfl))) (fun _ _ _ _ _ => pts_nil) (fun pins τ s H C cl fp I hfp => (pe_cmpR op_ne (pe_word (P := P) (w := w) (K := K) (mg := mg) (base := base) rfl rfl rfl rfl rfl W.1 W.2.1 W.2.2 (fun _ _ _ _ _ _ _ J g => goodBlk (fun _ => rfl) I hfp J g) hr (by decide) (pv 14)) (pv 8) (nomark _)))) pa_nil)))
      (pss_one (ps_ret pe_bl))
      pss_nil)
      (pss_cons (ps_asg (pe_tup (pa_cons (pe_cx c__law_take hr (by decide) tk (pa_cons (pv 0) (pa_cons (pe_op op_add (pe_callB (call_lenK (K := K) rfl M hr (by decide)) (by rfl) T.len bi_len (pa_cons (pe_ix (ixK (K := K) rfl) (pv 3) pe_int (fun _ _ => rfl)) pa_nil)) pe_int) pa_nil))) (pa_cons (pe_cx c__law_take hr (by decide) tk (pa_cons (pv 0) (pa_cons (pe_op op_add (pe_callB (call_lenK (K := K) rfl M hr (by decide)) (by rfl) T.len bi_len (pa_cons (pe_ix (ixK (K := K) rfl) (pv 4) pe_int (fun _ _ => rfl)) pa_nil)) pe_int) pa_nil))) pa_nil))) (pg_tupK (K := K) (n := 2) rfl rfl (pgs_cons (pg_name (i := 10) nd rfl (Or.inr rfl)) (pgs_cons (pg_name (i := 11) nd rfl (Or.inr rfl)) pgs_nil))))
      (pss_cons (ps_set (i := 12) nd rfl (Or.inl rfl) (pe_lst (pa_cons (pe_ifExp (pt_cmpR op_lt (pv 10) (pe_callB (call_lenK (K := K) rfl M hr (by decide)) (by rfl) T.len bi_len (pa_cons (pe_ix (ixK (K := K) rfl) (pv 3) pe_int (fun _ _ => rfl)) pa_nil)) (nomark _)) pe_str pe_str) (pa_cons (pe_ifExp (pt_cmpR op_lt (pv 11) (pe_callB (call_lenK (K := K) rfl M hr (by decide)) (by rfl) T.len bi_len (pa_cons (pe_ix (ixK (K := K) rfl) (pv 4) pe_int (fun _ _ => rfl)) pa_nil)) (nomark _)) pe_str pe_str) pa_nil))))
      (pss_one (ps_ret (pe_cmpR op_eq (pe_word (P := P) (w := w) (K := K) (mg := mg) (base := base) rfl rfl rfl rfl rfl W.1 W.2.1 W.2.2 (fun _ _ _ _ _ _ _ J g => goodX (fun _ => rfl) J g) hr (by decide) (pe_lamL (N := ["_law_kf", "_law_table", "_law_other", "_law_one", "_law_place"]) (fr := ["_law_table", "_law_other", "_law_one", "_law_place"]) (js := [1, 5, 10, 11]) (x := "_law_kf") (k := 7) (P := P) (w := w) (K := K) (mg := mg) (base := base) rfl rfl rfl rfl rfl TB rfl rfl (show ndefB (defScope (top 83)) _ _ = true by decide +kernel) rfl (nscope_by (by decide +kernel)) (fun _ _ _ _ _ us hl => match us, hl with | [_], _ => rfl)
        (fun c' f A outer s H E hr tk => (pe_cx c_join_groups hr (by decide) tk (pa_cons (pv 1) (pa_cons (pv 2) (pa_cons (pv 3) (pa_cons (pv 4) pa_nil)))))))) (pe_cx c__law_first hr (by decide) tk (pa_cons (pe_op op_cat (pe_lst (pa_cons (pv 8) pa_nil)) (pv 12)) pa_nil)) (nomark _)))))))))))))), ?_⟩)
  · obtain ⟨_, _, _, _, _, _, _, _, rfl, _⟩ := h
    rfl
  · obtain ⟨d, sc0, l, tv, wh, ts, R, wd, rfl, hd, hT, hne, hl, hp, S, tab, q⟩ := h
    clear tk pn nd hr
    generalize hX : cxOf (L2.CX P w) P w K mg base N__law_joins_right "_law_joins_right" (defScope (top 83)) f (.ref c) A outer s H E = X
    clear hX
    walk_at "st"
    generalize hB : tSeq (tAsg _ (gTup K 2 (gCons (gName 5) (gCons (gName 6) gNil)))) _ = B
    have rest : ∀ (H' : Hp) (l2 : Addr) (ts2 : List Addr) (R2 : List (List Int)) (w2 : Nat), SameX d H H' → DrawAt K sc0 H' d → H' l2 = some (.lst (ts2.map V.ref)) → Paired (RowAt H') ts2 R2 → Shp R2 w2 → l2 ≠ d →
        B { nx := fun x H' => Q V.non H', rt := Q } [some (.ref d), some tv, some (.str wh), some (.ref l), some (.ref l2), none, none, none, none, none, none, none, none, none, none] H' := by
      subst hB
      intro H2 l2 ts2 R2 w2 x2 d2 hl2 hp2 S2 ne2
      walk_at "st"
      generalize hB : tSeq (tAsg _ (gName 7)) _ = B
      have rest : ∀ (H' : Hp) (u : V) (late : Str), SameX d H H' → DrawAt K sc0 H' d → H' l2 = some (.lst (ts2.map V.ref)) → Paired (RowAt H') ts2 R2 → TabV a H' u R2 late →
          B { nx := fun x H' => Q V.non H', rt := Q } [some (.ref d), some tv, some (.str wh), some (.ref l), some (.ref l2), some u, some (.str late), none, none, none, none, none, none, none, none] H' := by
        subst hB
        intro H3 u late x3 d3 hl3 hp3 tab3
        clear hl2 hp2 x2 d2
        have tab3' : TabV a H3 tv R wh := tab.mv (Mv.ofX x3 hd d3)
        have hl3' := x3 _ _ hl hne
        have hp3' := rows_x x3 hd hp
        walk_at "st"
        generalize hB : tSeq (tAsg (tCallS spLf _ _) (gName 8)) _ = B
        have rest : ∀ (H' : Hp) (bs : Bool), Same H3 H' → bs = (srtB R && srtB R2) → B { nx := fun x H' => Q V.non H', rt := Q } [some (.ref d), some tv, some (.str wh), some (.ref l), some (.ref l2), some u, some (.str late), some (.bl bs), none, none, none, none, none, none, none] H' := by
          subst hB
          intro H4 bs e4 hbs
          have x4 := x3.same e4
          have d4 := d3.same e4
          have tabA : TabV a H4 tv R wh := tab3'.ext (ExtN.of e4)
          have tabB : TabV a H4 u R2 late := tab3.ext (ExtN.of e4)
          clear tab3 tab3'
          walk_at "st"
          generalize hB : tSeq (tAsg (tLst (tCons _ (tCons _ (tCons _ tNil)))) (gName 9)) _ = B
          have rest : ∀ (H' : Hp) (due : Str), Same H4 H' → due = firstW [wh, late, okW (srtB R && srtB R2) "order"] → B { nx := fun x H' => Q V.non H', rt := Q } [some (.ref d), some tv, some (.str wh), some (.ref l), some (.ref l2), some u, some (.str late), some (.bl bs), some (.str due), none, none, none, none, none, none] H' := by
            subst hB
            intro H5 due e5 hdue
            have x5 := x4.same e5
            have d5 := d4.same e5
            have tabA5 : TabV a H5 tv R wh := tabA.ext (ExtN.of e5)
            have tabB5 : TabV a H5 u R2 late := tabB.ext (ExtN.of e5)
            have hl5 := x5 _ _ hl hne
            have hp5 := rows_x x5 hd hp
            have hl25 := (e4.trans e5) _ _ hl3
            have hp25 : Paired (RowAt H5) ts2 R2 := Paired.imp2 hp3 fun _ _ h => (e4.trans e5) _ _ h
            have C5 : CS T0 H5 H5 := ⟨ExtN.refl H5, tabs_x hT hd x5⟩
            have pre : ∀ (H' : Hp) (Q' : VK), CS T0 H5 H' → (∀ H2, Same H' H2 → Q' (.str due) H2) → PreJ a H' (wordE a Q') tv u fun _ _ _ _ => ∀ (z : V) (H2 : Hp), Same H' H2 → Q' (.str "none") H2 := fun H' Q' C q' =>
              out_j (tabA5.ext C.e) (tabB5.ext C.e) S S2 (by rw [← hdue]; exact q') fun k z H2 e => k H2 e
            clear tabA tabB e4 e5 d4 x4 hl3 hp3 d3 x3 hl3' hp3'
            walk_at "st"
            walk_at "r0"
            refine ⟨C5.t, fun f1 H6 e6 _ T6 _ L1 => ?_⟩
            have G1 := LamS.due (a := a) (T0 := T0) (H0 := H5) (due := due) (ws := [some tv, some u]) L1 fun H' Q' C q' => ⟨tv, rfl, u, rfl, tv, u, rfl, pre H' Q' C q'⟩
            have C6 := C5.ext e6 T6
            refine ⟨C6.t, fun f2 H7 e7 _ T7 _ L2 => ?_⟩
            have G2 := LamS.due (a := a) (T0 := T0) (H0 := H5) (due := due) (ws := [some tv, some u]) L2 fun H' Q' C q' => ⟨tv, rfl, u, rfl, tv, u, rfl, pre H' Q' C q'⟩
            have C7 := C6.ext e7 T7
            refine ⟨C7.t, fun f3 H8 e8 _ T8 _ L3 => ?_⟩
            have G3 := LamS.due (a := a) (T0 := T0) (H0 := H5) (due := due) (ws := [some tv, some u]) L3 fun H' Q' C q' => ⟨tv, rfl, u, rfl, tv, u, rfl, pre H' Q' C q'⟩
            have C8 := C7.ext e8 T8
            refine ⟨by decide, fun p1 hp1 => ?_⟩
            have E9 := ExtN.of (same_new (o := .lst [.ref f1, .ref f2, .ref f3]) (Same.refl H8) hp1)
            have C9 := C8.same (same_new (o := .lst [.ref f1, .ref f2, .ref f3]) (Same.refl H8) hp1)
            have hl9 : upd H8 p1 (.lst [.ref f1, .ref f2, .ref f3]) p1 = some (.lst [.ref f1, .ref f2, .ref f3]) := upd_same
            have G1' := ((G1.ext e7).ext e8).ext E9
            have G2' := (G2.ext e8).ext E9
            have G3' := G3.ext E9
            clear G1 G2 G3 L1 L2 L3 C8 C7 C6 e6 e7 e8 T6 T7 T8
            generalize upd H8 p1 (.lst [.ref f1, .ref f2, .ref f3]) = H9 at C9 hl9 G1' G2' G3' ⊢
            walk_at "st"
            generalize hB : tSeq (tAsg _ (gTup K 2 (gCons (gName 10) (gCons (gName 11) gNil)))) _ = B
            have rest : ∀ (H' : Hp) (lc : Addr), CS T0 H5 H' → B { nx := fun x H' => Q V.non H', rt := Q } [some (.ref d), some tv, some (.str wh), some (.ref l), some (.ref l2), some u, some (.str late), some (.bl bs), some (.str due), some (.ref lc), none, none, none, none, none] H' := by
              subst hB
              intro H10 lc C10
              clear pre
              have m10 : Mv K sc0 d H5 H10 := .ofE C10.e d5
              have lR : (ts.map V.ref).length = R.length := by rw [List.length_map, hp5.length]
              obtain ⟨t0, ht0, hr0⟩ := rowAtI hp5 (i := 0) (by decide) (by have := S.pos; omega)
              have lr0 : ((R.getD 0 []).map V.int).length = wd := by rw [List.length_map]; exact row_of S S.pos
              obtain ⟨t2, ht2, hr2⟩ := rowAtI hp25 (i := 0) (by decide) (by have := S2.pos; omega)
              have lr2 : ((R2.getD 0 []).map V.int).length = w2 := by rw [List.length_map]; exact row_of S2 S2.pos
              have k10 : ∀ {b : Addr} {o : HO}, H5 b = some o → b ≠ d → (∀ ps, o ≠ .tbl ps) → H10 b = some o := fun h n t => m10.x _ _ h n t
              have row0 : H5 t0 = some (.tup ((R.getD 0 []).map V.int)) := hr0
              have row2 : H5 t2 = some (.tup ((R2.getD 0 []).map V.int)) := hr2
              have nt0 := d5.ne row0 fun _ _ => nofun
              have nt2 := d5.ne row2 fun _ _ => nofun
              walk_at "st"
              walk_at "r0"
              refine ix_l (k10 hl5 hne fun _ => nofun) ht0 (len_te' (k10 row0 nt0 fun _ => nofun) lr0 ⟨_, rfl, d, sc0, _, rfl, m10.dr', by omega, fun one H11 x11 d11 a11 b11 => ?_⟩)
              have m11 : Mv K sc0 d H5 H11 := ⟨m10.x.trans (.ofX x11), d5, d11⟩
              have T11 := tabs_x C10.t m10.dr' x11
              refine ix_l (m11.x _ _ hl25 ne2 fun _ => nofun) ht2 (len_te' (m11.x _ _ row2 nt2 fun _ => nofun) lr2 ⟨_, rfl, d, sc0, _, rfl, d11, by omega, fun place H12 x12 d12 a12 b12 => ⟨by decide, fun p12 hp12 => un2s upd_same ?_⟩⟩)
              have m12 : Mv K sc0 d H5 H12 := ⟨m11.x.trans (.ofX x12), d5, d12⟩
              have T12 := tabs_x T11 d11 x12
              have e13 := same_new (o := .tup [.int one, .int place]) (Same.refl H12) hp12
              have m13 : Mv K sc0 d H5 (upd H12 p12 (.tup [.int one, .int place])) := ⟨m12.x.trans (.ofE (ExtN.of e13)), d5, d12.same e13⟩
              have T13 := T12.ext e13
              generalize upd H12 p12 (.tup [.int one, .int place]) = H13 at m13 T13 ⊢
              clear m10 m11 m12 T11 T12 e13 hp12 x11 x12 d11 d12 C10 k10
              walk_at "st"
              generalize hB : tRet (tOp rEq _ _) = B
              have rest : ∀ (H' : Hp) (lw : Addr), Mv K sc0 d H5 H' → Tabs T0 H' → lw ≠ d → H' lw = some (.lst [.str (okW (isNum (.int one) 0 ((wd : Int) - 1)) "column"), .str (okW (isNum (.int place) 0 ((w2 : Int) - 1)) "column")]) →
                  B { nx := fun x H' => Q V.non H', rt := Q } [some (.ref d), some tv, some (.str wh), some (.ref l), some (.ref l2), some u, some (.str late), some (.bl bs), some (.str due), some (.ref lc), some (.int one), some (.int place), some (.ref lw), none, none] H' := by
                subst hB
                intro H14 lw m14 T14 nlw hlw
                walk_at "r0"
                refine word_lam T14 fun H15 e15 _ T15 => ⟨tv, rfl, u, rfl, .int one, rfl, .int place, rfl, out_jg ((tabA5.mv m14).ext e15) ((tabB5.mv m14).ext e15) S S2 fun H16 e16 => ?_⟩
                have hlw16 := e16 _ _ (e15 _ _ hlw fun _ => nofun)
                refine ⟨by decide, fun q1 hq1 => ?_⟩
                have e17 := same_new (o := .lst [.str due]) (Same.refl H16) hq1
                have h17 : upd H16 q1 (.lst [.str due]) q1 = some (.lst [.str due]) := upd_same
                generalize upd H16 q1 (.lst [.str due]) = H17 at e17 h17 ⊢
                refine ⟨q1, lw, _, _, rfl, rfl, h17, e17 _ _ hlw16, by show 3 ≤ sizeLine; decide, fun q2 hq2 => ?_⟩
                refine ⟨q2, [due, okW (isNum (.int one) 0 ((wd : Int) - 1)) "column", okW (isNum (.int place) 0 ((w2 : Int) - 1)) "column"], rfl, upd_same, by simp, lay3 ?_ lay_column.okW lay_column.okW, fun H18 e18 => ⟨rfl, ?_⟩⟩
                · rw [hdue]
                  exact lay_fw (lay3 tab.lay tabB5.lay lay_order.okW)
                · rw [hdue, fw_app, List.cons_append, List.cons_append, List.cons_append, List.nil_append, decide_eq_true rfl]
                  have e18' : Same H16 H18 := fun b o hb => e18 b o (same_new (Same.refl H17) hq2 b o (e17 b o hb))
                  have e58 : ExtN H14 H18 := extN_same (extN_same e15 e16) e18'
                  exact q H18 (((SameT.ofX x5).trans m14.x).trans (.ofE e58)) (m14.dr'.ext e58) (T15.ext (e16.trans e18'))
              clear hB
              have fin : ∀ (z1 z2 : Str), z1 = okW (isNum (.int one) 0 ((wd : Int) - 1)) "column" → z2 = okW (isNum (.int place) 0 ((w2 : Int) - 1)) "column" → 2 ≤ sizeLine ∧ ∀ p, H13 p = none →
                  B { nx := fun x H' => Q V.non H', rt := Q } [some (.ref d), some tv, some (.str wh), some (.ref l), some (.ref l2), some u, some (.str late), some (.bl bs), some (.str due), some (.ref lc), some (.int one), some (.int place), some (.ref p), none, none] (upd H13 p (.lst [.str z1, .str z2])) := by
                rintro z1 z2 rfl rfl
                refine ⟨by decide, fun p hp => ?_⟩
                have e14 := same_new (o := .lst [.str (okW (isNum (.int one) 0 ((wd : Int) - 1)) "column"), .str (okW (isNum (.int place) 0 ((w2 : Int) - 1)) "column")]) (Same.refl H13) hp
                exact rest _ p ⟨m13.x.trans (.ofE (ExtN.of e14)), d5, m13.dr'.same e14⟩ (T13.ext e14) (m13.dr'.nw hp) upd_same
              clear rest
              rw [isn_lt a11, isn_lt a12] at fin
              walk_at "r0"
              refine ix_l (m13.x _ _ hl5 hne fun _ => nofun) ht0 (len_te' (m13.x _ _ row0 nt0 fun _ => nofun) lr0 ⟨_, rfl, ?_⟩)
              have second : ∀ G : Str → VK, (∀ z2, z2 = okW (decide (place < (w2 : Int))) "column" → G z2 .non H13) → rIx K (.ref l2) (.int 0) H13 fun x H1 => rLenA K a.CT [x] H1 fun y H2 => ∃ x, y = .int x ∧ if decide (place < x) = true then G "none" .non H2 else G "column" .non H2 := by
                intro G h
                refine ix_l (m13.x _ _ hl25 ne2 fun _ => nofun) ht2 (len_te' (m13.x _ _ row2 nt2 fun _ => nofun) lr2 ⟨_, rfl, ?_⟩)
                cases hq : decide (place < (w2 : Int)) with
                | true =>
                  rw [if_pos rfl]
                  exact h _ (by rw [hq]; rfl)
                | false =>
                  rw [if_neg (by decide)]
                  exact h _ (by rw [hq]; rfl)
              cases hq : decide (one < (wd : Int)) with
              | true =>
                rw [if_pos rfl]
                exact second (fun z2 _ H2 => 2 ≤ sizeLine ∧ ∀ p, H2 p = none → B { nx := fun x H' => Q V.non H', rt := Q } [some (.ref d), some tv, some (.str wh), some (.ref l), some (.ref l2), some u, some (.str late), some (.bl bs), some (.str due), some (.ref lc), some (.int one), some (.int place), some (.ref p), none, none] (upd H2 p (.lst [.str "none", .str z2]))) fun z2 e2 => fin "none" z2 (by rw [hq]; rfl) e2
              | false =>
                rw [if_neg (by decide)]
                exact second (fun z2 _ H2 => 2 ≤ sizeLine ∧ ∀ p, H2 p = none → B { nx := fun x H' => Q V.non H', rt := Q } [some (.ref d), some tv, some (.str wh), some (.ref l), some (.ref l2), some u, some (.str late), some (.bl bs), some (.str due), some (.ref lc), some (.int one), some (.int place), some (.ref p), none, none] (upd H2 p (.lst [.str "column", .str z2]))) fun z2 e2 => fin "column" z2 (by rw [hq]; rfl) e2
            clear hB
            walk_at "r0"
            refine ⟨C9.t, fun f4 H10 e10 _ T10 _ L4 => ?_⟩
            have G4 := LamS.due (a := a) (T0 := T0) (H0 := H5) (due := due) (ws := [some tv, some u]) L4 fun H' Q' C q' => ⟨tv, rfl, u, rfl, tv, u, rfl, pre H' Q' C q'⟩
            have C10 := C9.ext e10 T10
            refine ⟨C10.t, fun f5 H11 e11 _ T11 _ L5 => ?_⟩
            have G5 := LamS.due (a := a) (T0 := T0) (H0 := H5) (due := due) (ws := [some tv, some u]) L5 fun H' Q' C q' => ⟨tv, rfl, u, rfl, tv, u, rfl, pre H' Q' C q'⟩
            have C11 := C10.ext e11 T11
            refine ⟨by decide, fun p2 hp2 => ?_⟩
            refine ⟨p1, p2, _, _, rfl, rfl, (same_new (Same.refl H11) hp2) _ _ (e11 _ _ (e10 _ _ hl9 fun _ => nofun) fun _ => nofun), upd_same, by show 5 ≤ sizeLine; decide, fun p3 hp3 => ?_⟩
            have S12 := (same_new (o := .lst [.ref f4, .ref f5]) (Same.refl H11) hp2).trans (same_new (o := .lst ([.ref f1, .ref f2, .ref f3] ++ [.ref f4, .ref f5])) (Same.refl _) hp3)
            have hl12 : upd (upd H11 p2 (.lst [.ref f4, .ref f5])) p3 (.lst ([.ref f1, .ref f2, .ref f3] ++ [.ref f4, .ref f5])) p3 = some (.lst [.ref f1, .ref f2, .ref f3, .ref f4, .ref f5]) := upd_same
            generalize upd (upd H11 p2 (.lst [.ref f4, .ref f5])) p3 (.lst ([.ref f1, .ref f2, .ref f3] ++ [.ref f4, .ref f5])) = H12 at S12 hl12 ⊢
            have C12 := C11.same S12
            have E12 := ExtN.of S12
            have all : ∀ x ∈ ([.ref f1, .ref f2, .ref f3, .ref f4, .ref f5] : List V), ∃ f, x = .ref f ∧ LamS P w K mg base X [1, 5] [some tv, some u] H12 f (DueAt a T0 H5 due) := by
              intro x hx
              simp only [List.mem_cons, List.not_mem_nil, or_false] at hx
              rcases hx with rfl | rfl | rfl | rfl | rfl
              · exact ⟨_, rfl, ((G1'.ext e10).ext e11).ext E12⟩
              · exact ⟨_, rfl, ((G2'.ext e10).ext e11).ext E12⟩
              · exact ⟨_, rfl, ((G3'.ext e10).ext e11).ext E12⟩
              · exact ⟨_, rfl, (G4.ext e11).ext E12⟩
              · exact ⟨_, rfl, G5.ext E12⟩
            clear G1' G2' G3' G4 G5 C9 C10 C11 e10 e11 T10 T11 S12 E12 hl9 L4 L5
            walk_at "st"
            walk_at "r0"
            walk_at "lp"
            walk_at "r0"
            refine ⟨true, _, sqA_l hl12, fun D1 hD1 => ?_⟩
            refine lcA (fun _ => .bl false) hD1 (by show 5 ≤ 100000; decide) (fun H' e => sqA_l (e _ _ hl12)) (fun i v H20 H21 acc Nx hi e20 ha y k => ?_) (fun H20 e20 h20 => ?_)
            · simp only [yV] at y
              obtain ⟨rfl, rfl⟩ := y
              obtain ⟨fc, hfc, L⟩ := all _ (getD_mem (d := V.non) hi)
              refine ⟨_, rfl, fc, _, hfc, (L.ext (ExtN.of e20)) _ rfl, C12.same e20, _, rfl, rfl, fun H22 e22 => ⟨rfl, ?_⟩⟩
              rw [decide_eq_true rfl]
              exact k H22 e22
            · refine any_l (bs := (List.range 5).map fun _ => false) (by rw [h20]; rfl) ?_
              rw [show ((List.range 5).map fun _ => false).any id = false from rfl]
              refine ⟨false, rfl, ?_⟩
              rw [if_neg (by decide)]
              exact rest H20 p3 (C12.same e20)
          clear hB
          walk_at "r0"
          refine okW_ite (G := fun z => 3 ≤ sizeLine ∧ ∀ p, H4 p = none → spLf [.ref p] (upd H4 p (.lst [.str wh, .str late, .str z])) _ _) ?_
          refine ⟨by decide, fun p5 hp5 => ⟨p5, [wh, late, okW bs "order"], rfl, upd_same, by simp, lay3 tab.lay tabB.lay lay_order.okW, fun H5 e5 => ?_⟩⟩
          exact rest H5 _ (fun b o hb => e5 b o (same_new (Same.refl H4) hp5 b o hb)) (by rw [hbs])
        clear hB
        walk_at "r0"
        walk_at "lp"
        walk_at "r0"
        refine lc_col0 hl3' hp3' S fun H4 D4 e4 h4 => ?_
        walk_at "lp"
        walk_at "r0"
        refine lc_col0 (e4 _ _ hl3') (Paired.imp2 hp3' fun _ _ h => e4 _ _ h) S fun H5 D5 e5 h5 => ?_
        refine sorted_col (e5 _ _ h4) h5 S.le fun H6 e6 => ?_
        have E6 := (e4.trans e5).trans e6
        walk_at "st"
        walk_at "r0"
        cases hs : srtB R with
        | false =>
          rw [if_neg (by decide)]
          exact rest H6 false E6 (by rw [hs]; rfl)
        | true =>
          rw [if_pos rfl]
          walk_at "lp"
          walk_at "r0"
          refine lc_col0 (E6 _ _ hl3) (Paired.imp2 hp3 fun _ _ h => E6 _ _ h) S2 fun H7 D7 e7 h7 => ?_
          walk_at "lp"
          walk_at "r0"
          refine lc_col0 ((E6.trans e7) _ _ hl3) (Paired.imp2 hp3 fun _ _ h => (E6.trans e7) _ _ h) S2 fun H8 D8 e8 h8 => ?_
          refine sorted_col (e8 _ _ h7) h8 S2.le fun H9 e9 => ?_
          exact rest H9 (srtB R2) (((E6.trans e7).trans e8).trans e9) (by rw [hs]; rfl)
      clear hB
      walk_at "r0"
      refine ⟨d, sc0, 5, rfl, d2, by decide, fun r3 H3 x3 d3 _ _ => ⟨rfl, _, rfl, ?_⟩⟩
      have hl3 := x3 _ _ hl2 ne2
      have hp3 := rows_x x3 d2 hp2
      split
      · refine ⟨d, sc0, rfl, d3, fun u H4 o x4 d4 => ⟨by decide, fun p4 hp4 => un2s upd_same ?_⟩⟩
        have e5 := same_new (o := .tup [u, .str "table"]) (Same.refl H4) hp4
        exact rest _ u "table" (((x2.trans x3).trans x4).same e5) (d4.same e5) (e5 _ _ (x4 _ _ hl3 ne2)) (Paired.imp2 (rows_x x4 d3 hp3) fun _ _ h => e5 _ _ h) (.inl ⟨rfl, o.same e5⟩)
      · refine ⟨ts2, hl3, R2, hp3, w2, S2, fun u H4 e4 t4 => ⟨by decide, fun p4 hp4 => un2s upd_same ?_⟩⟩
        have e5 := e4.trans (same_new (o := .tup [u, .str "none"]) (Same.refl H4) hp4)
        exact rest _ u "none" ((x2.trans x3).same e5) (d3.same e5) (e5 _ _ hl3) (Paired.imp2 hp3 fun _ _ h => e5 _ _ h) (.inr ⟨rfl, t4.same (same_new (Same.refl H4) hp4)⟩)
    clear hB
    walk_at "r0"
    refine ⟨d, sc0, 5, rfl, hd, by decide, by decide, fun l2 H2 ts2 R2 w2 S2 hl2 hp2 ne2 x2 d2 => rest H2 l2 ts2 R2 w2 x2 d2 hl2 hp2 S2 ne2⟩
end
end G


set_option Elab.async false
set_option linter.all false
set_option maxRecDepth 100000
set_option maxHeartbeats 4000000
set_option pp.deepTerms true
set_option pp.maxSteps 100000
set_option format.width 230
namespace G
open PySem PySem.Spec PyProof.Rows L2
local macro_rules | `(tactic| walk_at "rd") => `(tactic| try simp only [cxOf_K, tSeq, tIfS, tTest, tB, tCB, tCons, tNil, tC, tVar, tOp, tUn, tAndV, tOrV, tNotV, tAnd, tOr, tNot, tIf, tChain, tRet, tRetN, tAsg, gName, tDrop, tNext, tCallS, WE, rI0, rI, rU, L2.start, tYes, tLc, tFor, gTup, gCons, gNil, tPar, tPar3, tAug, ipI, tWidth, tCall, tMeth, tMake, tFld, tRows, tTable, sFld, rMulT, rSumT, gSub, tBM, rAppend, rSetL, rExtend, rSlL, rSlQ, tCol, Int.toNat_natCast,  tSl, tNoPart, tPart, tTup, tLst, tNever, itu_g, sDPut, tDNewK, tDNewN, tDispN, rSetN, rIxN, rInN, tGetN, rGetN, iKN, iIN, iRg3, iRng3, rGetL, tAugS, tNo, rCopyN, rRep,
  List.map_cons, List.map_nil, List.length_cons, List.length_nil, List.cons_append, List.nil_append, List.replicate, Nat.reduceAdd, Nat.reduceSub, Nat.zero_add, Nat.sub_self,
  List.getElem?_cons_zero, List.getElem?_cons_succ, List.set_cons_zero, List.set_cons_succ, wipe, Option.some.injEq, exists_eq_left', exists_eq_left, V.bl.injEq, V.int.injEq, ref_inj, ty_inj, if_true, if_false, Bool.false_eq_true, Bool.true_eq_false, exists_const, exists_and_left, true_and, and_true, List.cons.injEq,
  isB_int, isB_bool, isB_tuple, isB_list, isT_at, iSq, iRg1, iRg2, iZ2, iZ3, iEn])
local macro_rules | `(tactic| walk_at "r1") => `(tactic| try simp only [cxOf_K, tSeq, tIfS, tTest, tB, tCB, tCons, tNil, tC, tVar, tOp, tUn, tAndV, tOrV, tNotV, tAnd, tOr, tNot, tIf, tChain, tRet, tRetN, tAsg, gName, tDrop, tNext, tCallS, WE, rI0, rI, rU, L2.start, tYes, gTup, gCons, gNil, tPar, tPar3, tAug, ipI, tWidth, tCall, tMeth, tMake, tFld, tRows, tTable, sFld, rMulT, rSumT, gSub, tBM, rAppend, rSetL, rExtend, rSlL, rSlQ, tCol, Int.toNat_natCast,  tSl, tNoPart, tPart, tTup, tLst, tNever, itu_g, sDPut, tDNewK, tDNewN, tDispN, rSetN, rIxN, rInN, tGetN, rGetN, iKN, iIN, iRg3, iRng3, rGetL, tAugS, tNo, rCopyN, rRep,
  List.map_cons, List.map_nil, List.length_cons, List.length_nil, List.cons_append, List.nil_append, List.replicate, Nat.reduceAdd, Nat.reduceSub, Nat.zero_add, Nat.sub_self,
  List.getElem?_cons_zero, List.getElem?_cons_succ, List.set_cons_zero, List.set_cons_succ, wipe, Option.some.injEq, exists_eq_left', exists_eq_left, V.bl.injEq, V.int.injEq, ref_inj, ty_inj, if_true, if_false, Bool.false_eq_true, Bool.true_eq_false, exists_const, exists_and_left, true_and, and_true, List.cons.injEq,
  isB_int, isB_bool, isB_tuple, isB_list, isT_at, iSq, iRg1, iRg2, iZ2, iZ3, iEn])
local macro_rules | `(tactic| walk_at "r0") => `(tactic| try simp only [cxOf_K, tIfS, tTest, tB, tCB, tCons, tNil, tC, tVar, tOp, tUn, tAndV, tOrV, tNotV, tAnd, tOr, tNot, tIf, tChain, tRet, tRetN, tAsg, gName, tDrop, tNext, tCallS, WE, rI0, rI, rU, L2.start, tYes, gTup, gCons, gNil, tPar, tPar3, tAug, ipI, tWidth, tCall, tMeth, tMake, tFld, tRows, tTable, sFld, rMulT, rSumT, gSub, tBM, rAppend, rSetL, rExtend, rSlL, rSlQ, tCol, Int.toNat_natCast,  tSl, tNoPart, tPart, tTup, tLst, tNever, itu_g, sDPut, tDNewK, tDNewN, tDispN, rSetN, rIxN, rInN, tGetN, rGetN, iKN, iIN, iRg3, iRng3, rGetL, tAugS, tNo, rCopyN, rRep,
  List.map_cons, List.map_nil, List.length_cons, List.length_nil, List.cons_append, List.nil_append, List.replicate, Nat.reduceAdd, Nat.reduceSub, Nat.zero_add, Nat.sub_self,
  List.getElem?_cons_zero, List.getElem?_cons_succ, List.set_cons_zero, List.set_cons_succ, wipe, Option.some.injEq, exists_eq_left', exists_eq_left, V.bl.injEq, V.int.injEq, ref_inj, ty_inj, if_true, if_false, Bool.false_eq_true, Bool.true_eq_false, exists_const, exists_and_left, true_and, and_true, List.cons.injEq,
  isB_int, isB_bool, isB_tuple, isB_list, isT_at, iSq, iRg1, iRg2, iZ2, iZ3, iEn])
local macro_rules | `(tactic| walk_at "st") => `(tactic| ((try dsimp only); rw [tSeq_def]))
local macro_rules | `(tactic| walk_at "lp") => `(tactic| first | rw [tFor_def] | rw [tLc_def] | rw [tWhile_def])
local macro_rules | `(tactic| walk_at "ex") => `(tactic| simp only [List.cons.injEq, and_true, true_and, and_assoc, exists_and_left, exists_eq_left', exists_eq_left, exists_eq_right, exists_const, V.int.injEq, V.bl.injEq, ref_inj, Bool.not_true, Bool.not_false, Bool.false_eq_true, if_true, if_false, Bool.true_eq_false])
section
variable {P : Program} {w : World} {K : PySem.W.Frag} {mg : Str → Option Value} {base : Heap} {a : Ad}
open LamX NdefX
/-- sorted(l) of a list of tuples of ints, all as long -/
def rSortV (K : PySem.W.Frag) : List V → Hp → VK → Prop := fun vs H Q => ∃ (d : Nat) (B : Int), 1 ≤ d ∧ rSortU K d B vs H Q
theorem crK_sortV {X : Cx} {K : PySem.W.Frag} (hK : X.K = K) : CallR X (.builtin "sorted") (rSortV K) := by
  subst hK
  intro pins s σ H vs us Q I r h
  obtain ⟨d, B, hd, h⟩ := h
  exact cr_sortT hd pins s σ H vs us Q I r h
theorem rows_of {H : Hp} {w : Nat} : ∀ {ys : List V}, (∀ y ∈ ys, ∃ t row, y = .ref t ∧ RowAt H t row ∧ row.length = w ∧ ∀ z ∈ row, 0 ≤ z ∧ z ≤ 6) → ∃ (ts : List Addr) (R : List (List Int)), ys = ts.map V.ref ∧ Paired (RowAt H) ts R ∧ R.length = ys.length ∧ ∀ r ∈ R, r.length = w ∧ ∀ z ∈ r, 0 ≤ z ∧ z ≤ 6
  | [], _ => ⟨[], [], rfl, .nil, rfl, fun _ h => nomatch h⟩
  | y :: ys, h => by
    obtain ⟨t, row, rfl, h1, h2⟩ := h y (List.mem_cons_self ..)
    obtain ⟨ts, R, rfl, h3, h4, h5⟩ := rows_of fun z hz => h z (List.mem_cons_of_mem _ hz)
    refine ⟨t :: ts, row :: R, rfl, .cons h1 h3, by rw [List.length_cons, List.length_cons, h4], fun r hr => ?_⟩
    rcases List.mem_cons.mp hr with rfl | hr
    · exact h2
    · exact h5 r hr
theorem rows_mem {H : Hp} {ts : List Addr} {R : List (List Int)} (h : Paired (RowAt H) ts R) {x : V} (hx : x ∈ ts.map V.ref) : ∃ t row, x = .ref t ∧ RowAt H t row ∧ row ∈ R := by
  induction h with
  | nil => exact nomatch hx
  | cons r _ ih =>
    rw [List.map_cons] at hx
    rcases List.mem_cons.mp hx with rfl | hx
    · exact ⟨_, _, rfl, r, List.mem_cons_self ..⟩
    · obtain ⟨t, row, e, h1, h2⟩ := ih hx
      exact ⟨t, row, e, h1, List.mem_cons_of_mem _ h2⟩
/-- law(script) -/
def spLaw (K : PySem.W.Frag) (T0 : List (Addr × Str)) : Sp := fun vs H Q _ => ∃ sc, vs = [.ref sc] ∧ Script K H sc ∧ Tabs T0 H ∧ ∀ H', Q (.bl true) H'
abbrev N_law : List Str := ["_law_script", "_law_draw", "_law_turn", "_law_rows_here", "_law_is_bad", "_law_word_here", "_law_table"]
set_option maxHeartbeats 16000000 in
theorem ok_law {T0 : List (Addr × Str)} {fl : Addr} {fd : FuncData} (F : L2.Fun K "law" "law" (top 84) fl fd) (T : Txt K mg a) (M : TabM P w K mg base a.CT) (c_Table : MkX P w K mg base 4 "Table" a.CT (spInit a.CT)) (c__law_take : CalX P w K mg base 4 "_law_take" (spLt K)) (c__law_rows : CalX P w K mg base 5 "_law_rows" (spLr K a)) (c__law_odd : CalX P w K mg base 6 "_law_odd" (spLo K a))
    (c__law_tables_right : CalX P w K mg base 10 "_law_tables_right" (spTR K a T0)) (c__law_pieces_right : CalX P w K mg base 10 "_law_pieces_right" (spPR K a T0)) (c__law_joins_right : CalX P w K mg base 10 "_law_joins_right" (spTR K a T0)) : FnOk P w K mg base (L2.CX P w) 11 fl fd ["_law_script"] (spLaw K T0) := by
  refine fnx (N := N_law) F (by decide +kernel) (fun vs H Q E h => ?_) (fun cdv A outer s H vs Q E hr nd tk pn h => ⟨_, (pss_cons (ps_set (i := 1) nd rfl (Or.inl rfl) (pe_lst (pa_cons (pv 0) (pa_cons pe_int pa_nil))))
      (pss_cons (ps_for pn rfl (pi_rg1 (by rfl) T.range (pa_cons pe_int pa_nil)) (pg_name (i := 2) nd rfl (Or.inl rfl))
      (pss_cons (ps_set (i := 3) nd rfl (Or.inl rfl) (pe_cx c__law_rows hr (by decide) tk (pa_cons (pv 1) (pa_cons pe_int pa_nil))))
      (pss_cons (ps_set (i := 3) nd rfl (Or.inl rfl) (pe_ifExp (pt_cmpR op_eq (pe_cx c__law_take hr (by decide) tk (pa_cons (pv 1) (pa_cons pe_int pa_nil))) pe_int (nomark _)) (pe_callB (crK_sortV (K := K) rfl) (by rfl) T.sorted bi_sorted (pa_cons (pv 3) pa_nil)) (pv 3)))
      (pss_cons (ps_set (i := 4) nd rfl (Or.inl rfl) (pe_cmpR op_eq (pe_cx c__law_take hr (by decide) tk (pa_cons (pv 1) (pa_cons pe_int pa_nil))) pe_int (nomark _)))
      (pss_cons (ps_set (i := 5) nd rfl (Or.inl rfl) (pe_ifExp (pt_val (pv 4)) pe_str pe_str))
      (pss_cons (ps_set (i := 6) nd rfl (Or.inl rfl) (pe_ifExp (pt_val (pv 4)) (pe_cx c__law_odd hr (by decide) tk (pa_cons (pv 1) pa_nil)) (pe_mkTable c_Table hr (by decide) (pa_cons (pv 3) pa_nil))))
      (pss_cons (ps_if (PW.pt (pw_or (pt_not (pt_val (pe_cx c__law_tables_right hr (by decide) tk (pa_cons (pv 1) (pa_cons (pv 6) (pa_cons (pv 5) (pa_cons (pv 3) pa_nil))))))) (pw_or1 (pt_not (pt_val (pe_cx c__law_pieces_right hr (by decide) tk (pa_cons (pv 1) pa_nil)))))))
      (pss_one (ps_ret pe_bl))
      pss_nil)
      (pss_one (ps_if (pt_not (pt_val (pe_cx c__law_joins_right hr (by decide) tk (pa_cons (pv 1) (pa_cons (pv 6) (pa_cons (pv 5) (pa_cons (pv 3) pa_nil)))))))
      (pss_one (ps_ret pe_bl))
      pss_nil)))))))))
      (pss_one (ps_ret pe_bl)))), ?_⟩)
  · obtain ⟨_, rfl, _⟩ := h
    rfl
  · obtain ⟨sc, rfl, hs, hT, q⟩ := h
    clear tk pn nd hr
    walk_at "st"
    walk_at "r0"
    refine ⟨by decide, fun d hd => ?_⟩
    have e1 := same_new (o := .lst [.ref sc, .int 0]) (Same.refl H) hd
    have d1 : DrawAt K sc (upd H d (.lst [.ref sc, .int 0])) d := ⟨0, upd_same, hs.same e1⟩
    have T1 := hT.ext e1
    generalize upd H d (.lst [.ref sc, .int 0]) = H1 at d1 T1 ⊢
    walk_at "st"
    walk_at "lp"
    walk_at "r0"
    refine ⟨⟨by decide, by decide⟩, ?_⟩
    refine forB (fun j σ H' => DrawAt K sc H' d ∧ Tabs T0 H' ∧ ∃ v2 v3 v4 v5 v6 : Option V, σ = [some (.ref sc), some (.ref d), v2, v3, v4, v5, v6]) ⟨d1, T1, none, none, none, none, none, rfl⟩ (fun _ _ _ _ _ => trivial) ?_ ?_
    · rintro j v σ H2 H3 Nx hj ⟨d2, T2, v2, v3, v4, v5, v6, rfl⟩ y nx
      simp only [yV] at y
      obtain ⟨rfl, rfl⟩ := y
      walk_at "st"
      walk_at "r0"
      refine ⟨d, sc, 8, rfl, d2, by decide, by decide, fun l H4 ts R w S hl hp ne x4 d4 => ?_⟩
      have T4 := tabs_x T2 d2 x4
      walk_at "st"
      generalize hB : tSeq (tAsg (tOp rEq _ _) (gName 4)) _ = B
      have rest : ∀ (H' : Hp) (l : Addr) (ts : List Addr) (R : List (List Int)), Shp R w → H' l = some (.lst (ts.map V.ref)) → Paired (RowAt H') ts R → l ≠ d → DrawAt K sc H' d → Tabs T0 H' →
          B { nx := Nx, rt := Q, bk := fun σ' H' => Q (V.bl true) H', ct := Nx } [some (.ref sc), some (.ref d), some (.int (j : Nat)), some (.ref l), v4, v5, v6] H' := by
        subst hB
        clear hl hp ne x4 d4 T4 S
        intro H5 l ts R S hl hp ne d5 T5
        walk_at "st"
        walk_at "r0"
        refine ⟨d, sc, 6, rfl, d5, by decide, fun r H6 x6 d6 _ _ => ⟨rfl, ?_⟩⟩
        have T6 := tabs_x T5 d5 x6
        have hl6 := x6 _ _ hl ne
        have hp6 := rows_x x6 d5 hp
        generalize decide (V.int r = V.int 0) = isbad
        generalize hB : tSeq (tIfS _ _ _) _ = B
        have rest : ∀ (H' : Hp) (tv : V) (wh : Str), H' l = some (.lst (ts.map V.ref)) → Paired (RowAt H') ts R → DrawAt K sc H' d → Tabs T0 H' → TabV a H' tv R wh →
            B { nx := Nx, rt := Q, bk := fun σ' H' => Q (V.bl true) H', ct := Nx } [some (.ref sc), some (.ref d), some (.int (j : Nat)), some (.ref l), some (.bl isbad), some (.str wh), some tv] H' := by
          subst hB
          intro H7 tv wh hl7 hp7 d7 T7 tab7
          walk_at "st"
          walk_at "r0"
          refine ⟨d, sc, l, tv, wh, ts, R, w, rfl, d7, T7, ne, hl7, hp7, S, tab7, fun H8 s8 d8 T8 => ⟨true, rfl, ?_⟩⟩
          rw [if_neg (by decide)]
          refine ⟨d, sc, rfl, d8, T8, fun H9 s9 d9 T9 => ⟨true, rfl, ?_⟩⟩
          rw [if_neg (by decide)]
          have m9 : Mv K sc d H7 H9 := ⟨s8.trans s9, d7, d9⟩
          refine ⟨d, sc, l, tv, wh, ts, R, w, rfl, d9, T9, ne, m9.x _ _ hl7 ne (fun _ => nofun), Paired.imp2 hp7 fun _ _ h => m9.x _ _ h (d7.ne h fun _ _ => nofun) fun _ => nofun, S, tab7.mv m9, fun H10 s10 d10 T10 => ⟨true, rfl, ?_⟩⟩
          rw [if_neg (by decide)]
          exact nx _ _ ⟨d10, T10, _, _, _, _, _, rfl⟩
        clear hB
        walk_at "st"
        walk_at "r0"
        cases isbad with
        | true =>
          rw [if_pos rfl]
          walk_at "st"
          walk_at "r0"
          refine ⟨d, sc, rfl, d6, fun tv H7 o x7 d7 => ?_⟩
          exact rest H7 tv "table" (x7 _ _ hl6 ne) (rows_x x7 d6 hp6) d7 (tabs_x T6 d6 x7) (.inl ⟨rfl, o⟩)
        | false =>
          rw [if_neg (by decide)]
          walk_at "st"
          walk_at "r0"
          refine ⟨ts, hl6, R, hp6, w, S, fun tv H7 e7 t7 => ?_⟩
          exact rest H7 tv "none" (e7 _ _ hl6) (Paired.imp2 hp6 fun _ _ h => e7 _ _ h) (d6.same e7) (T6.ext e7) (.inr ⟨rfl, t7⟩)
      clear hB
      walk_at "r0"
      refine ⟨d, sc, 2, rfl, d4, by decide, fun r H5 x5 d5 _ _ => ⟨rfl, _, rfl, ?_⟩⟩
      have T5 := tabs_x T4 d4 x5
      have hl5 := x5 _ _ hl ne
      have hp5 := rows_x x5 d4 hp
      split
      · refine ⟨w, 7, S.w1, l, _, rfl, SqL.of hl5, by rw [List.length_map, hp5.length]; have := S.le; omega, fun x hx => ?_, fun ys p pm _ hn => ?_⟩
        · obtain ⟨t, row, rfl, h1, h2⟩ := rows_mem hp5 hx
          obtain ⟨h3, h4⟩ := S.row row h2
          exact ⟨row, ⟨t, rfl, SqT.of h1⟩, h3, fun m hm => by have := h4 m hm; omega⟩
        · have e6 := same_new (o := .lst ys) (Same.refl H5) hn
          obtain ⟨ts', R', rfl, h1, h2, h3⟩ := rows_of (H := upd H5 p (.lst ys)) (w := w) (ys := ys) fun y hy => by
            obtain ⟨t, row, e, h1, h2⟩ := rows_mem hp5 (pm.subset hy)
            exact ⟨t, row, e, e6 _ _ h1, S.row row h2⟩
          have hlen : R'.length = R.length := by rw [h2, pm.length_eq, List.length_map, hp5.length]
          exact rest _ p ts' R' ⟨by rw [hlen]; exact S.pos, by rw [hlen]; exact S.le, S.w1, S.w4, h3⟩ upd_same h1 (d5.nw hn) (d5.same e6) (T5.ext e6)
      · exact rest H5 l ts R S hl5 hp5 ne d5 T5
    · rintro σ H2 ⟨d2, T2, v2, v3, v4, v5, v6, rfl⟩
      exact q H2
end
end G


set_option Elab.async false
set_option linter.all false
set_option maxRecDepth 100000
set_option maxHeartbeats 4000000
set_option pp.deepTerms true
set_option pp.maxSteps 100000
set_option format.width 230
namespace G
open PySem PySem.Spec PyProof.Rows L2
local macro_rules | `(tactic| walk_at "rd") => `(tactic| try simp only [cxOf_K, tSeq, tIfS, tTest, tB, tCB, tCons, tNil, tC, tVar, tOp, tUn, tAndV, tOrV, tNotV, tAnd, tOr, tNot, tIf, tChain, tRet, tRetN, tAsg, gName, tDrop, tNext, tCallS, WE, rI0, rI, rU, L2.start, tYes, tLc, tFor, gTup, gCons, gNil, tPar, tPar3, tAug, ipI, tWidth, tCall, tMeth, tMake, tFld, tRows, tTable, sFld, rMulT, rSumT, gSub, tBM, rAppend, rSetL, rExtend, rSlL, rSlQ, tCol, Int.toNat_natCast,  tSl, tNoPart, tPart, tTup, tLst, tNever, itu_g, sDPut, tDNewK, tDNewN, tDispN, rSetN, rIxN, rInN, tGetN, rGetN, iKN, iIN, iRg3, iRng3, rGetL, tAugS, tNo, rCopyN, rRep,
  List.map_cons, List.map_nil, List.length_cons, List.length_nil, List.cons_append, List.nil_append, List.replicate, Nat.reduceAdd, Nat.reduceSub, Nat.zero_add, Nat.sub_self,
  List.getElem?_cons_zero, List.getElem?_cons_succ, List.set_cons_zero, List.set_cons_succ, wipe, Option.some.injEq, exists_eq_left', exists_eq_left, V.bl.injEq, V.int.injEq, ref_inj, ty_inj, if_true, if_false, Bool.false_eq_true, Bool.true_eq_false, exists_const, exists_and_left, true_and, and_true, List.cons.injEq,
  isB_int, isB_bool, isB_tuple, isB_list, isT_at, iSq, iRg1, iRg2, iZ2, iZ3, iEn])
local macro_rules | `(tactic| walk_at "r1") => `(tactic| try simp only [cxOf_K, tSeq, tIfS, tTest, tB, tCB, tCons, tNil, tC, tVar, tOp, tUn, tAndV, tOrV, tNotV, tAnd, tOr, tNot, tIf, tChain, tRet, tRetN, tAsg, gName, tDrop, tNext, tCallS, WE, rI0, rI, rU, L2.start, tYes, gTup, gCons, gNil, tPar, tPar3, tAug, ipI, tWidth, tCall, tMeth, tMake, tFld, tRows, tTable, sFld, rMulT, rSumT, gSub, tBM, rAppend, rSetL, rExtend, rSlL, rSlQ, tCol, Int.toNat_natCast,  tSl, tNoPart, tPart, tTup, tLst, tNever, itu_g, sDPut, tDNewK, tDNewN, tDispN, rSetN, rIxN, rInN, tGetN, rGetN, iKN, iIN, iRg3, iRng3, rGetL, tAugS, tNo, rCopyN, rRep,
  List.map_cons, List.map_nil, List.length_cons, List.length_nil, List.cons_append, List.nil_append, List.replicate, Nat.reduceAdd, Nat.reduceSub, Nat.zero_add, Nat.sub_self,
  List.getElem?_cons_zero, List.getElem?_cons_succ, List.set_cons_zero, List.set_cons_succ, wipe, Option.some.injEq, exists_eq_left', exists_eq_left, V.bl.injEq, V.int.injEq, ref_inj, ty_inj, if_true, if_false, Bool.false_eq_true, Bool.true_eq_false, exists_const, exists_and_left, true_and, and_true, List.cons.injEq,
  isB_int, isB_bool, isB_tuple, isB_list, isT_at, iSq, iRg1, iRg2, iZ2, iZ3, iEn])
local macro_rules | `(tactic| walk_at "r0") => `(tactic| try simp only [cxOf_K, tIfS, tTest, tB, tCB, tCons, tNil, tC, tVar, tOp, tUn, tAndV, tOrV, tNotV, tAnd, tOr, tNot, tIf, tChain, tRet, tRetN, tAsg, gName, tDrop, tNext, tCallS, WE, rI0, rI, rU, L2.start, tYes, gTup, gCons, gNil, tPar, tPar3, tAug, ipI, tWidth, tCall, tMeth, tMake, tFld, tRows, tTable, sFld, rMulT, rSumT, gSub, tBM, rAppend, rSetL, rExtend, rSlL, rSlQ, tCol, Int.toNat_natCast,  tSl, tNoPart, tPart, tTup, tLst, tNever, itu_g, sDPut, tDNewK, tDNewN, tDispN, rSetN, rIxN, rInN, tGetN, rGetN, iKN, iIN, iRg3, iRng3, rGetL, tAugS, tNo, rCopyN, rRep,
  List.map_cons, List.map_nil, List.length_cons, List.length_nil, List.cons_append, List.nil_append, List.replicate, Nat.reduceAdd, Nat.reduceSub, Nat.zero_add, Nat.sub_self,
  List.getElem?_cons_zero, List.getElem?_cons_succ, List.set_cons_zero, List.set_cons_succ, wipe, Option.some.injEq, exists_eq_left', exists_eq_left, V.bl.injEq, V.int.injEq, ref_inj, ty_inj, if_true, if_false, Bool.false_eq_true, Bool.true_eq_false, exists_const, exists_and_left, true_and, and_true, List.cons.injEq,
  isB_int, isB_bool, isB_tuple, isB_list, isT_at, iSq, iRg1, iRg2, iZ2, iZ3, iEn])
local macro_rules | `(tactic| walk_at "st") => `(tactic| ((try dsimp only); rw [tSeq_def]))
local macro_rules | `(tactic| walk_at "lp") => `(tactic| first | rw [tFor_def] | rw [tLc_def] | rw [tWhile_def])
local macro_rules | `(tactic| walk_at "ex") => `(tactic| simp only [List.cons.injEq, and_true, true_and, and_assoc, exists_and_left, exists_eq_left', exists_eq_left, exists_eq_right, exists_const, V.int.injEq, V.bl.injEq, ref_inj, Bool.not_true, Bool.not_false, Bool.false_eq_true, if_true, if_false, Bool.true_eq_false])
section
variable {P : Program} {w : World} {K : PySem.W.Frag} {mg : Str → Option Value} {base : Heap} {a : Ad}
open LamX NdefX
/-! ### the facts of the written part -/
/-- a def of the module -/
structure FunK (K : PySem.W.Frag) (x : Str) (i : Nat) : Prop where
  ex : ∃ (f : Addr) (oc : Value) (od : Option Addr) (kV doc pm : Value) (an : Option Addr) (cd ct : Value) (osl : Array (Option Value)), PySem.W.nsIn K mainGlobals x = some (some (.ref f)) ∧
    K.lookup f = some ⟨oc, od, .func (PySem.W.fnOf x x (defArgs (top i)) (defBody (top i)) (defScope (top i)) .none kV doc pm an cd ct), osl⟩ ∧ PySem.W.codeIn K cd x = true ∧ PySem.W.keepIn K (.ref f) = true
theorem FunK.def {x : Str} {i : Nat} {h : Heap} (F : FunK K x i) (X : K.In h) (G : h.Ns mainGlobals mg) : Def K mg x i :=
  let ⟨f, _, _, _, _, _, _, _, _, _, n, l, c, k⟩ := F.ex; ⟨f, _, fun_mk (st := top i) l c k, PySem.W.mg_of X G n⟩
/-- a code object, its table -/
structure CodeK (K : PySem.W.Frag) (c P0 : Addr) : Prop where
  ex : ∃ (dd : Option Addr) (vs : Array Value) (sl : Array (Option Value)) (file : Str) (tf : Nat) (flags : Int) (tg : Nat) (inF : Bool) (text : Int) (tt : Nat), K.lookup c = some ⟨.type "code", dd, .fields vs, sl⟩ ∧ vs[11]? = some (.ref P0) ∧ vs.getD 11 .none = .ref P0 ∧ vs.getD 18 .none = .str file tf ∧
    vs.getD 7 .none = .int flags tg ∧ vs.getD 9 .none = .bool inF ∧ vs.getD 10 .none = .int text tt ∧ c ≠ P0
  no : K.lookup P0 = none
theorem CodeK.hd {c P0 : Addr} {h : Heap} (C : CodeK K c P0) (X : K.In h) : PySem.W.CodeHd h c P0 :=
  let ⟨_, vs, _, file, tf, flags, tg, inF, text, tt, l, e1, e2, e3, e4, e5, e6, e7⟩ := C.ex; ⟨_, vs, file, tf, flags, tg, inF, text, tt, X _ _ l, rfl, rfl, e1, e2, e3, e4, e5, e6, e7⟩
/-- a def of the module whose code object is told -/
structure FunC (K : PySem.W.Frag) (x : Str) (i : Nat) (c P0 : Addr) : Prop where
  ex : ∃ (f : Addr) (oc : Value) (od : Option Addr) (kV doc pm : Value) (an : Option Addr) (ct : Value) (osl : Array (Option Value)), PySem.W.nsIn K mainGlobals x = some (some (.ref f)) ∧
    K.lookup f = some ⟨oc, od, .func (PySem.W.fnOf x x (defArgs (top i)) (defBody (top i)) (defScope (top i)) .none kV doc pm an (.ref c) ct), osl⟩ ∧ PySem.W.codeIn K (.ref c) x = true ∧ PySem.W.keepIn K (.ref f) = true
  code : CodeK K c P0
theorem FunC.def {x : Str} {i : Nat} {c P0 : Addr} {h : Heap} (F : FunC K x i c P0) (X : K.In h) (G : h.Ns mainGlobals mg) : DefC K mg x i c :=
  let ⟨f, oc, od, kV, doc, pm, an, ct, osl, n, l, cc, k⟩ := F.ex; ⟨f, oc, od, kV, doc, pm, an, ct, osl, l, cc, k, PySem.W.mg_of X G n⟩
/-- its table is empty -/
theorem FunC.tab {x : Str} {i : Nat} {c P0 : Addr} {h : Heap} (F : FunC K x i c P0) (X : K.In h) (G : h.Ns mainGlobals mg) (own : ∀ f, mg x = some (.ref f) → OwnTab K f h) : h.get? P0 = some { cls := .none, data := .fields #[] } := by
  obtain ⟨f, oc, od, kV, doc, pm, an, ct, osl, n, l, cc, k⟩ := F.ex
  obtain ⟨dd, vs, sl, _, _, _, _, _, _, _, l2, e1, _⟩ := F.code.ex
  exact own f (PySem.W.mg_of X G n) c P0 _ _ _ _ _ _ l rfl rfl l2 e1
/-- a method -/
structure MetK (K : PySem.W.Frag) (C : Addr) (m q : Str) (i j : Nat) : Prop where
  ex : ∃ (f : Addr) (oc : Value) (od : Option Addr) (kV doc pm : Value) (an : Option Addr) (cd ct : Value) (osl : Array (Option Value)), PySem.W.findIn K (.ref C) m = some (some (.ref f)) ∧ PySem.W.isFn K (.ref f) = true ∧
    K.lookup f = some ⟨oc, od, .func (PySem.W.fnOf m q (defArgs (inClass (top i) j)) (defBody (inClass (top i) j)) (defScope (inClass (top i) j)) .none kV doc pm an cd ct), osl⟩ ∧ PySem.W.codeIn K cd q = true ∧ PySem.W.keepIn K (.ref f) = true
theorem MetK.def {C : Addr} {m q : Str} {i j : Nat} (F : MetK K C m q i j) : DefM K C m q i j :=
  let ⟨f, _, _, _, _, _, _, _, _, _, n, fn, l, c, k⟩ := F.ex; ⟨f, _, fun_mk (st := inClass (top i) j) l c k, n, fn, k⟩
/-- a class -/
structure ClsK (K : PySem.W.Frag) (x : Str) (C : Addr) (q : Str) (i : Nat) : Prop where
  ns : PySem.W.nsIn K mainGlobals x = some (some (.ref C))
  pg : PySem.W.plainGet K C Str.empty = true
  hd : PySem.W.hasDictIn K C = true
  po : PySem.W.plainOver K C = true
  sa : PySem.W.findIn K (.ref C) "__setattr__" = some (some (.builtin "object.__setattr__"))
  mks : PySem.W.makesIn K C = true
  kp : PySem.W.keepIn K (.ref C) = true
  init : MetK K C "__init__" q i 0
theorem ClsK.cls {x q : Str} {C : Addr} {i : Nat} (c : ClsK K x C q i) : Cls K C := ⟨c.pg, c.hd, c.po, c.sa⟩
theorem ClsK.def {x q : Str} {C : Addr} {i : Nat} {h : Heap} (c : ClsK K x C q i) (X : K.In h) (G : h.Ns mainGlobals mg) : DefI K mg x C q i :=
  let ⟨f, _, _, _, _, _, _, _, _, _, n, fn, l, cc, k⟩ := c.init.ex; ⟨f, _, fun_mk (st := inClass (top i) 0) l cc k, ⟨c.mks, n, fn, c.kp⟩, PySem.W.mg_of X G c.ns⟩
/-- an exception's class without __init__ -/
structure ExcK (K : PySem.W.Frag) (x : Str) (C : Addr) : Prop where
  ns : PySem.W.nsIn K mainGlobals x = some (some (.ref C))
  xin : PySem.W.excIn K C [.type "ValueError", .type "Exception", .type "BaseException", .type "object"] "ValueError.__new__" = true
  kp : PySem.W.keepIn K (.ref C) = true
  sb : PySem.W.subIn K (.ref C) (.type "BaseException") = some true
  ty : PySem.W.typeIn K (.ref C) = some (.type "type")
theorem ExcK.exc {x : Str} {C : Addr} {h : Heap} (e : ExcK K x C) (X : K.In h) (G : h.Ns mainGlobals mg) : ExcC K mg x C := ⟨PySem.W.mg_of X G e.ns, e.xin, e.kp, e.sb, e.ty⟩
/-- a class that an except clause names -/
structure CauK (K : PySem.W.Frag) (C : Addr) : Prop where
  sb : PySem.W.subIn K (.ref C) (.type "BaseException") = some true
  is : PySem.W.isClsIn K C = true
  ty : PySem.W.typeIn K (.ref C) = some (.type "type")
theorem CauK.exm {C c : Addr} {b : Bool} (e : CauK K C) (h : PySem.W.subIn K (.ref c) (.ref C) = some b) : PySem.W.exmOne K (.ref c) (.ref C) = some b := by
  have e1 : (PySem.W.subIn K (.ref C) (.type "BaseException") == some true) = true := by rw [e.sb]; rfl
  have e2 : ((PySem.W.clsIn K C).isSome && PySem.W.typeIn K (.ref C) == some (.type "type")) = true := by
    have z : (PySem.W.clsIn K C).isSome = true := e.is
    rw [z, e.ty]; rfl
  unfold PySem.W.exmOne
  rw [if_pos e1]
  unfold PySem.W.kitCls
  simp only [if_pos e2]
  exact h
/-- isinstance of an own class's instance, by a type of the language's -/
theorem kit_ot {C : Addr} {T : String} {b : Bool} (hm : PySem.W.kitMeta T = true) (h : PySem.W.subIn K (.ref C) (.type T) = some b) : PySem.W.kitOne K (.ref C) (.type T) = some b := by
  unfold PySem.W.kitOne
  rw [if_neg (by simp)]
  unfold PySem.W.kitCls
  simp only [if_pos hm]
  exact h
theorem kit_to {C : Addr} {T : String} {b : Bool} (is : PySem.W.isClsIn K C = true) (ty : PySem.W.typeIn K (.ref C) = some (.type "type")) (h : PySem.W.subIn K (.type T) (.ref C) = some b) : PySem.W.kitOne K (.type T) (.ref C) = some b := by
  have e2 : ((PySem.W.clsIn K C).isSome && PySem.W.typeIn K (.ref C) == some (.type "type")) = true := by
    have z : (PySem.W.clsIn K C).isSome = true := is
    rw [z, ty]; rfl
  unfold PySem.W.kitOne
  rw [if_neg (by simp)]
  unfold PySem.W.kitCls
  simp only [if_pos e2]
  exact h
theorem kit_oo {C : Addr} : PySem.W.kitOne K (.ref C) (.ref C) = some true := by
  unfold PySem.W.kitOne
  rw [if_pos (by simp)]
/-- Table's class, for isinstance -/
structure TabF (K : PySem.W.Frag) (C : Addr) : Prop where
  ha : PySem.W.findIn K (.ref C) "__class__" = some (some (.builtin "object.__class__"))
  hn : PySem.W.specialIn K (.builtin "object.__class__") "__get__" = some (some (.builtin "getset_descriptor.__get__"))
  tk : PySem.W.takesIn K (.builtin "object.__class__") = some true
  hm : PySem.W.mroIn K C (.type "object") = some true
  is : PySem.W.isClsIn K C = true
  ty : PySem.W.typeIn K (.ref C) = some (.type "type")
  o1 : PySem.W.subIn K (.ref C) (.type "int") = some false
  o2 : PySem.W.subIn K (.ref C) (.type "bool") = some false
  o3 : PySem.W.subIn K (.ref C) (.type "tuple") = some false
  o4 : PySem.W.subIn K (.ref C) (.type "list") = some false
  t1 : PySem.W.subIn K (.type "NoneType") (.ref C) = some false
  t2 : PySem.W.subIn K (.type "bool") (.ref C) = some false
  t3 : PySem.W.subIn K (.type "int") (.ref C) = some false
  t4 : PySem.W.subIn K (.type "str") (.ref C) = some false
  t5 : PySem.W.subIn K (.type "list") (.ref C) = some false
  t6 : PySem.W.subIn K (.type "tuple") (.ref C) = some false
  t7 : PySem.W.subIn K (.type "dict") (.ref C) = some false
  nR : PySem.W.findIn K (.ref C) "rows" = some none
theorem TabF.tabK {C : Addr} (t : TabF K C) (c : Cls K C) : TabK K C :=
  ⟨c, t.ha, t.hn, t.tk, t.hm, kit_ot (by decide +kernel) t.o1, kit_ot (by decide +kernel) t.o2, kit_ot (by decide +kernel) t.o3, kit_ot (by decide +kernel) t.o4, kit_oo,
    kit_to t.is t.ty t.t1, kit_to t.is t.ty t.t2, kit_to t.is t.ty t.t3, kit_to t.is t.ty t.t4, kit_to t.is t.ty t.t5, kit_to t.is t.ty t.t6, kit_to t.is t.ty t.t7⟩
/-- a property of a class -/
structure PropK (K : PySem.W.Frag) (C : Addr) : Prop where
  ex : ∃ (p g : Addr) (rest : List Value) (oc : Value) (od : Option Addr) (kV doc pm : Value) (an : Option Addr) (cd ct : Value) (osl : Array (Option Value)), PySem.W.findIn K (.ref C) "width" = some (some (.ref p)) ∧ PySem.W.specialIn K (.ref p) "__get__" = some (some (.builtin "property.__get__")) ∧ PySem.W.takesIn K (.ref p) = some true ∧
    PySem.W.recIn K p "property" = some (.ref g :: rest) ∧ K.lookup g = some ⟨oc, od, .func (PySem.W.fnOf "width" "Table.width" (defArgs (inClass (top 19) 5)) (defBody (inClass (top 19) 5)) (defScope (inClass (top 19) 5)) .none kV doc pm an cd ct), osl⟩ ∧ PySem.W.codeIn K cd "Table.width" = true ∧ PySem.W.keepIn K (.ref g) = true
/-- the module's plain names -/
structure NamK (K : PySem.W.Frag) : Prop where
  isinstance : PySem.W.nsIn K mainGlobals "isinstance" = some none
  len : PySem.W.nsIn K mainGlobals "len" = some none
  all : PySem.W.nsIn K mainGlobals "all" = some none
  any : PySem.W.nsIn K mainGlobals "any" = some none
  sum : PySem.W.nsIn K mainGlobals "sum" = some none
  min : PySem.W.nsIn K mainGlobals "min" = some none
  max : PySem.W.nsIn K mainGlobals "max" = some none
  sorted : PySem.W.nsIn K mainGlobals "sorted" = some none
  int : PySem.W.nsIn K mainGlobals "int" = some none
  bool : PySem.W.nsIn K mainGlobals "bool" = some none
  str : PySem.W.nsIn K mainGlobals "str" = some none
  tuple : PySem.W.nsIn K mainGlobals "tuple" = some none
  list : PySem.W.nsIn K mainGlobals "list" = some none
  dict : PySem.W.nsIn K mainGlobals "dict" = some none
  range : PySem.W.nsIn K mainGlobals "range" = some none
  zip : PySem.W.nsIn K mainGlobals "zip" = some none
  enumerate : PySem.W.nsIn K mainGlobals "enumerate" = some none
  super : PySem.W.nsIn K mainGlobals "super" = some none
structure ConK (K : PySem.W.Frag) (x : Str) (i : Int) : Prop where
  ex : ∃ t, PySem.W.nsIn K mainGlobals x = some (some (.int i t))
theorem ConK.get {x : Str} {i : Int} {h : Heap} (c : ConK K x i) (X : K.In h) (G : h.Ns mainGlobals mg) : ∃ u, mg x = some u ∧ RelV (.int i) u := let ⟨t, n⟩ := c.ex; ⟨_, PySem.W.mg_of X G n, t, rfl⟩
/-- BadPieces -/
structure PieK (P : Program) (K : PySem.W.Frag) (C : Addr) : Prop where
  ns : PySem.W.nsIn K mainGlobals "BadPieces" = some (some (.ref C))
  cls : ∃ nm q N bs bm sn sub ab col dd k0 k1 k2 k3 k5, K.lookup C = some (excClassObj nm q C N bs bm true sn sub ab col dd k0 k1 k2 k3 k5 "ValueError.__new__") ∧ PySem.HandSPX.refsVE bm = true
  sa : PySem.W.findIn K (.ref C) "__setattr__" = some (some (.builtin "object.__setattr__"))
  exC : PySem.W.subIn K (.ref C) (.type "BaseException") = some true
  tyC : PySem.W.typeIn K (.ref C) = some (.type "type")
  kC : PySem.W.keepIn K (.ref C) = true
  ga : PySem.W.findIn K (.ref C) "__getattribute__" = some (some (.builtin "BaseException.__getattribute__"))
  gg : PySem.W.findIn K (.ref C) "__getattr__" = some none
  hdC : PySem.W.hasDictIn K C = true
  sub : PySem.W.mroIn K C (.ref C) = some true
  ve : PySem.W.subIn K (.ref C) (.type "ValueError") = some true
  tp : PySem.W.nsIn K cStatics "thirdparty.any" = some none
  noI : PySem.W.findIn K (.ref C) "index" = some none
  cd : ∃ cdD, PySem.W.clsIn K C = some cdD
  has : PySem.W.ks_superIn K C C "__init__" = some (some (.builtin "ValueError.__init__"))
  fn : ∃ (f cc cda : Addr) (oc : Value) (od : Option Addr) (kV doc pm : Value) (an : Option Addr) (ct : Value) (osl : Array (Option Value)) (ccl : Value) (cdd : Option Addr) (vs : Array Value) (ccs : Array (Option Value)) (file : Str) (tf : Nat) (cl : Value) (cld : Option Addr) (csl : Array (Option Value)),
    PySem.W.findIn K (.ref C) "__init__" = some (some (.ref f)) ∧ PySem.W.typeIn K (.ref f) = some (.type "function") ∧ K.lookup f = some ⟨oc, od, .func (PySem.W.ksFn "__init__" "BadPieces.__init__" (defArgs (inClass (top 10) 0)) (defBody (inClass (top 10) 0)) (defScope (inClass (top 10) 0)) .none kV doc pm an (.ref cda) ct cc), osl⟩ ∧
    K.lookup cda = some ⟨ccl, cdd, .fields vs, ccs⟩ ∧ vs[2]? = some (.str file tf) ∧ ((P.main.file : Str) == file) = true ∧ K.lookup cc = some ⟨cl, cld, .cell (some (.ref C)), csl⟩ ∧ PySem.W.codeIn K (.ref cda) "BadPieces.__init__" = true
theorem PieK.oex {C : Addr} (p : PieK P K C) : OexC K C := ⟨p.cls, p.sa, p.exC, p.tyC, p.kC⟩
theorem PieK.bad {C : Addr} {h : Heap} (p : PieK P K C) (X : K.In h) (G : h.Ns mainGlobals mg) (hs : PySem.W.nsIn K mainGlobals "super" = some none) (ht : (P.main.scope.names.lookup ("super" : Str)).isSome = false) : BadP P w K mg base 1 C := by
  obtain ⟨f, cc, cda, oc, od, kV, doc, pm, an, ct, osl, ccl, cdd, vs, ccs, file, tf, cl, cld, csl, iC, tI, lk, l2, v2, hf, l3, cI⟩ := p.fn
  refine ⟨f, _, ["self", "index"], p.oex, iC, tI, PySem.W.mg_of X G p.ns, bp_init (k := 0) (cda := cda) (cc := cc) ⟨p.oex, ⟨ccl, cdd, vs, ccs, file, tf, l2, v2, hf⟩, ⟨cl, cld, csl, l3⟩, p.cd, p.sub, hs, ht, p.has, p.ve, p.tp, p.noI, cI⟩ (PySem.W.mg_none_of X G hs) lk (fun _ => rfl) rfl rfl rfl rfl rfl (by decide +kernel) rfl rfl rfl rfl (by decide +kernel), ?_⟩
  exact .all fun us hl => match us, hl with | [_, _], _ => rfl
/-- the module's defs -/
structure AllF (K : PySem.W.Frag) : Prop where
  d_is_number : FunK K "is_number" 16
  d_is_row : FunK K "is_row" 17
  d_width_of : FunK K "width_of" 18
  d_check_table : FunK K "check_table" 20
  d_check_column : FunK K "check_column" 21
  d_check_prices : FunK K "check_prices" 22
  d_apart : FunK K "apart" 23
  d_ones : FunK K "ones" 24
  d_check_pieces : FunK K "check_pieces" 27
  d_ends_of : FunK K "ends_of" 28
  d_is_plan : FunK K "is_plan" 29
  d_put_plan : FunK K "put_plan" 31
  d_steps_from : FunK K "steps_from" 32
  d_floors_of : FunK K "floors_of" 33
  d_seam : FunK K "seam" 34
  d_best_seams : FunK K "best_seams" 36
  d_least_seams : FunK K "least_seams" 37
  d_put_together_best : FunK K "put_together_best" 38
  d_runs_in : FunK K "runs_in" 40
  d_changes : FunK K "changes" 41
  d_runs_from : FunK K "runs_from" 43
  d_check_wide : FunK K "check_wide" 44
  d_page_cost : FunK K "page_cost" 45
  d_all_cost : FunK K "all_cost" 46
  d_sliding : FunK K "sliding" 47
  d_change_cost : FunK K "change_cost" 48
  d_ends_of_most : FunK K "ends_of_most" 49
  d_quiet : FunK K "quiet" 50
  d_check_sorted : FunK K "check_sorted" 52
  d_walk : FunK K "walk" 53
  d_edges_in : FunK K "edges_in" 54
  d_join_count : FunK K "join_count" 55
  d_join_pairs : FunK K "join_pairs" 56
  d_join_runs : FunK K "join_runs" 57
  d_join_groups : FunK K "join_groups" 58
  d_join_looks : FunK K "join_looks" 59
  d_lonely : FunK K "lonely" 60
  d_check_thin : FunK K "check_thin" 62
  d_floors_in : FunK K "floors_in" 63
  d_best_in : FunK K "best_in" 64
  d_thin : FunK K "thin" 66
  d_fewest_thinned : FunK K "fewest_thinned" 67
  d_most_thinned : FunK K "most_thinned" 68
  d_count_thinned : FunK K "count_thinned" 69
  d_law_number : FunK K "_law_number" 71
  d_law_take : FunK K "_law_take" 72
  d_law_pick : FunK K "_law_pick" 73
  d_law_is_number : FunK K "_law_is_number" 74
  d_law_rows : FunK K "_law_rows" 75
  d_law_odd : FunK K "_law_odd" 76
  d_law_word : FunK K "_law_word" 77
  d_law_first : FunK K "_law_first" 78
  d_law_prices_word : FunK K "_law_prices_word" 79
  d_law_some_prices : FunK K "_law_some_prices" 80
  d_law : FunK K "law" 84
/-- the classes and the names -/
structure AllC (P : Program) (K : PySem.W.Frag) (CT CTh CSe cBT cBI cBC cBO cBP cTL cPc cCE : Addr) : Prop where
  nam : NamK K
  mrows : ConK K "MOST_ROWS" 10
  mcols : ConK K "MOST_COLUMNS" 4
  mval : ConK K "MOST_VALUE" 6
  mprice : ConK K "MOST_PRICE" 9
  mpieces : ConK K "MOST_PIECES" 6
  tab : ClsK K "Table" CT "Table.__init__" 19
  thi : ClsK K "Thinned" CTh "Thinned.__init__" 65
  sea : ClsK K "Seamed" CSe "Seamed.__init__" 35
  eBT : ExcK K "BadTable" cBT
  eBI : ExcK K "BadIndex" cBI
  eBC : ExcK K "BadColumn" cBC
  eBO : ExcK K "BadOrder" cBO
  eBP : ExcK K "BadPrices" cBP
  eTL : ExcK K "TooLarge" cTL
  pie : PieK P K cPc
  gCE : PySem.W.nsIn K mainGlobals "ColumnError" = some (some (.ref cCE))
  tf : TabF K CT
  mlen : MetK K CT "__len__" "Table.__len__" 19 2
  mcol : MetK K CT "column" "Table.column" 19 6
  mthi : MetK K CTh "shows" "Thinned.shows" 65 2
  msea : MetK K CSe "shows" "Seamed.shows" 35 2
  pro : PropK K CT
  n1 : PySem.W.findIn K (.ref CTh) "kept" = some none
  n2 : PySem.W.findIn K (.ref CTh) "floors" = some none
  n3 : PySem.W.findIn K (.ref CSe) "plan" = some none
  n4 : PySem.W.findIn K (.ref CSe) "floors" = some none
  nosup : (P.main.scope.names.lookup ("super" : Str)).isSome = false
/-- what the clauses of _law_word look at -/
structure AllW (K : PySem.W.Frag) (cBT cBI cBC cBO cBP cTL cPc : Addr) : Prop where
  kt : CauK K cBT
  kc : CauK K cBC
  ki : CauK K cBI
  kp : CauK K cBP
  ko : CauK K cBO
  kx : CauK K cPc
  kl : CauK K cTL
  tt : PySem.W.subIn K (.ref cBT) (.ref cBT) = some true
  ct : PySem.W.subIn K (.ref cBC) (.ref cBT) = some false
  cc : PySem.W.subIn K (.ref cBC) (.ref cBC) = some true
  it : PySem.W.subIn K (.ref cBI) (.ref cBT) = some false
  ic : PySem.W.subIn K (.ref cBI) (.ref cBC) = some false
  ii : PySem.W.subIn K (.ref cBI) (.ref cBI) = some true
  pt : PySem.W.subIn K (.ref cBP) (.ref cBT) = some false
  pc : PySem.W.subIn K (.ref cBP) (.ref cBC) = some false
  pi : PySem.W.subIn K (.ref cBP) (.ref cBI) = some false
  pp : PySem.W.subIn K (.ref cBP) (.ref cBP) = some true
  ot : PySem.W.subIn K (.ref cBO) (.ref cBT) = some false
  oc : PySem.W.subIn K (.ref cBO) (.ref cBC) = some false
  oi : PySem.W.subIn K (.ref cBO) (.ref cBI) = some false
  op : PySem.W.subIn K (.ref cBO) (.ref cBP) = some false
  oo : PySem.W.subIn K (.ref cBO) (.ref cBO) = some true
  xt : PySem.W.subIn K (.ref cPc) (.ref cBT) = some false
  xc : PySem.W.subIn K (.ref cPc) (.ref cBC) = some false
  xi : PySem.W.subIn K (.ref cPc) (.ref cBI) = some false
  xp : PySem.W.subIn K (.ref cPc) (.ref cBP) = some false
  xo : PySem.W.subIn K (.ref cPc) (.ref cBO) = some false
  xx : PySem.W.subIn K (.ref cPc) (.ref cPc) = some true
  lt : PySem.W.subIn K (.ref cTL) (.ref cBT) = some false
  lc : PySem.W.subIn K (.ref cTL) (.ref cBC) = some false
  li : PySem.W.subIn K (.ref cTL) (.ref cBI) = some false
  lp : PySem.W.subIn K (.ref cTL) (.ref cBP) = some false
  lo : PySem.W.subIn K (.ref cTL) (.ref cBO) = some false
  lx : PySem.W.subIn K (.ref cTL) (.ref cPc) = some false
  ll : PySem.W.subIn K (.ref cTL) (.ref cTL) = some true
theorem AllW.word {P : Program} {h : Heap} {CT CTh CSe cBT cBI cBC cBO cBP cTL cPc cCE : Addr} (W : AllW K cBT cBI cBC cBO cBP cTL cPc) (C : AllC P K CT CTh CSe cBT cBI cBC cBO cBP cTL cPc cCE) (X : K.In h) (G : h.Ns mainGlobals mg) : WordT K mg ⟨CT, CTh, CSe, cBT, cBI, cBC, cBO, cBP, cTL, cPc, cCE⟩ :=
  { gP := PySem.W.mg_of X G C.pie.ns, gE := PySem.W.mg_of X G C.gCE, xf := ⟨C.pie.ga, C.pie.gg, C.pie.exC, C.pie.hdC⟩, nix := C.pie.noI, tt := W.kt.exm W.tt, ct := W.kt.exm W.ct, cc := W.kc.exm W.cc, it := W.kt.exm W.it, ic := W.kc.exm W.ic, ii := W.ki.exm W.ii, pt := W.kt.exm W.pt, pc := W.kc.exm W.pc, pi := W.ki.exm W.pi, pp := W.kp.exm W.pp, ot := W.kt.exm W.ot, oc := W.kc.exm W.oc, oi := W.ki.exm W.oi, op := W.kp.exm W.op, oo := W.ko.exm W.oo, xt := W.kt.exm W.xt, xc := W.kc.exm W.xc, xi := W.ki.exm W.xi, xp := W.kp.exm W.xp, xo := W.ko.exm W.xo, xx := W.kx.exm W.xx, lt := W.kt.exm W.lt, lc := W.kc.exm W.lc, li := W.ki.exm W.li, lp := W.kp.exm W.lp, lo := W.ko.exm W.lo, lx := W.kx.exm W.lx, ll := W.kl.exm W.ll }
theorem AllC.txt {P : Program} {h : Heap} {CT CTh CSe cBT cBI cBC cBO cBP cTL cPc cCE : Addr} (C : AllC P K CT CTh CSe cBT cBI cBC cBO cBP cTL cPc cCE) (X : K.In h) (G : h.Ns mainGlobals mg) : Txt K mg ⟨CT, CTh, CSe, cBT, cBI, cBC, cBO, cBP, cTL, cPc, cCE⟩ :=
  { isinstance := PySem.W.mg_none_of X G C.nam.isinstance, len := PySem.W.mg_none_of X G C.nam.len, all := PySem.W.mg_none_of X G C.nam.all, any := PySem.W.mg_none_of X G C.nam.any, sum := PySem.W.mg_none_of X G C.nam.sum, min := PySem.W.mg_none_of X G C.nam.min, max := PySem.W.mg_none_of X G C.nam.max, sorted := PySem.W.mg_none_of X G C.nam.sorted, int := PySem.W.mg_none_of X G C.nam.int, bool := PySem.W.mg_none_of X G C.nam.bool, str := PySem.W.mg_none_of X G C.nam.str, tuple := PySem.W.mg_none_of X G C.nam.tuple, list := PySem.W.mg_none_of X G C.nam.list, dict := PySem.W.mg_none_of X G C.nam.dict, range := PySem.W.mg_none_of X G C.nam.range, zip := PySem.W.mg_none_of X G C.nam.zip, enumerate := PySem.W.mg_none_of X G C.nam.enumerate, mrows := C.mrows.get X G, mcols := C.mcols.get X G, mval := C.mval.get X G, mprice := C.mprice.get X G, mpieces := C.mpieces.get X G, k := C.tf.tabK C.tab.cls, nR := C.tf.nR, vTable := ⟨_, PySem.W.mg_of X G C.tab.ns, rfl⟩, BadTable := C.eBT.exc X G, BadIndex := C.eBI.exc X G, BadColumn := C.eBC.exc X G, BadOrder := C.eBO.exc X G, BadPrices := C.eBP.exc X G, TooLarge := C.eTL.exc X G }
/-- the property's getter, the two methods that the rules ask for -/
theorem AllC.tabM {P : Program} {CT CTh CSe cBT cBI cBC cBO cBP cTL cPc cCE : Addr} (C : AllC P K CT CTh CSe cBT cBI cBC cBO cBP cTL cPc cCE) (T : Txt K mg ⟨CT, CTh, CSe, cBT, cBI, cBC, cBO, cBP, cTL, cPc, cCE⟩) : TabM P w K mg base CT :=
  let ⟨_, _, rest, _, _, _, _, _, _, _, _, _, i1, i2, i3, i4, l, c, kp⟩ := C.pro.ex
  ⟨C.tf.tabK C.tab.cls, ⟨_, _, _, ⟨i1, i2, i3, rest, i4⟩, ok_wid (p := 0) (fun_mk (st := inClass (top 19) 5) l c kp) T⟩, ok_len C.mlen.def T⟩
/-- law, over any base heap that holds the head's facts -/
theorem law_ok {P : Program} {fl CT CTh CSe cBT cBI cBC cBO cBP cTL cPc cCE c1 P1 c2 P2 c3 P3 : Addr} {fd : FuncData} (KB : K.In base) (GB : base.Ns mainGlobals mg) (C : AllC P K CT CTh CSe cBT cBI cBC cBO cBP cTL cPc cCE) (F : AllF K) (W : AllW K cBT cBI cBC cBO cBP cTL cPc)
    (F1 : FunC K "_law_tables_right" 81 c1 P1) (F2 : FunC K "_law_pieces_right" 82 c2 P2) (F3 : FunC K "_law_joins_right" 83 c3 P3) (FL : L2.Fun K "law" "law" (top 84) fl fd) {T0 : List (Addr × Str)}
    (B1 : Tbs base mg T0 c1 P1 ((("_law_tables_right" : Str) ++ ".<locals>.") ++ "<lambda>")) (B2 : Tbs base mg T0 c2 P2 ((("_law_pieces_right" : Str) ++ ".<locals>.") ++ "<lambda>")) (B3 : Tbs base mg T0 c3 P3 ((("_law_joins_right" : Str) ++ ".<locals>.") ++ "<lambda>")) :
    FnOk P w K mg base (L2.CX P w) 11 fl fd ["_law_script"] (spLaw K T0) := by
  have WT := W.word C KB GB
  have T := C.txt KB GB
  have M : TabM P w K mg base CT := C.tabM T
  have Tt : TxTh K CTh := ⟨C.thi.cls, C.n1, C.n2⟩
  have Ts : TxSe K CSe := ⟨C.sea.cls, C.n3, C.n4⟩
  obtain ⟨g, hg, hk, hW⟩ := ok_law_word (P := P) (w := w) (base := base) (F.d_law_word.def KB GB) T WT 8
  have W : WordOk P w K mg base ⟨CT, CTh, CSe, cBT, cBI, cBC, cBO, cBP, cTL, cPc, cCE⟩ 8 g ∧ mg "_law_word" = some (.ref g) ∧ PySem.W.keepIn K (.ref g) = true := ⟨hW, hg, hk⟩
  have c_is_number := ok_is_number (P := P) (w := w) (base := base) (F.d_is_number.def KB GB) T
  have c_check_table := ok_check_table (P := P) (w := w) (base := base) (F.d_check_table.def KB GB) T
  have c_check_column := ok_check_column (P := P) (w := w) (base := base) (F.d_check_column.def KB GB) T M c_is_number
  have c_check_prices := ok_check_prices (P := P) (w := w) (base := base) (F.d_check_prices.def KB GB) T M c_is_number
  have c_is_row := ok_is_row (P := P) (w := w) (base := base) (F.d_is_row.def KB GB) T M c_is_number
  have c_width_of := ok_width_of (P := P) (w := w) (base := base) (F.d_width_of.def KB GB) T M
  have c_Table := ok_init (P := P) (w := w) (base := base) (C.tab.def KB GB) T M c_is_row c_width_of
  have c_column := ok_column (P := P) (w := w) (base := base) (C.mcol.def) T c_check_column
  have c_apart := ok_apart (P := P) (w := w) (base := base) (F.d_apart.def KB GB) T
  have c_ones := ok_ones (P := P) (w := w) (base := base) (F.d_ones.def KB GB) T M
  have c_runs_in := ok_runs_in (P := P) (w := w) (base := base) (F.d_runs_in.def KB GB) T
  have c_changes := ok_changes (P := P) (w := w) (base := base) (F.d_changes.def KB GB) T c_check_table c_apart c_ones
  have c_runs_from := ok_runs_from (P := P) (w := w) (base := base) (F.d_runs_from.def KB GB) T M c_runs_in c_column
  have c_check_wide := ok_check_wide (P := P) (w := w) (base := base) (F.d_check_wide.def KB GB) T M c_is_number
  have c_change_cost := ok_change_cost (P := P) (w := w) (base := base) (F.d_change_cost.def KB GB) T
  have c_page_cost := ok_page_cost (P := P) (w := w) (base := base) (F.d_page_cost.def KB GB) T M c_is_number c_check_table c_check_prices c_runs_from
  have c_all_cost := ok_all_cost (P := P) (w := w) (base := base) (F.d_all_cost.def KB GB) T M c_check_table c_check_prices
  have c_sliding := ok_sliding (P := P) (w := w) (base := base) (F.d_sliding.def KB GB) T M c_check_table c_check_wide c_check_prices c_runs_from c_change_cost
  have c_quiet := ok_quiet (P := P) (w := w) (base := base) (F.d_quiet.def KB GB) T c_check_table c_changes
  have c_ends_of_most := ok_ends_of_most (P := P) (w := w) (base := base) (F.d_ends_of_most.def KB GB) T c_sliding
  have c_check_sorted := ok_check_sorted (P := P) (w := w) (base := base) (F.d_check_sorted.def KB GB) T c_check_table c_column
  have c_edges_in := ok_edges_in (P := P) (w := w) (base := base) (F.d_edges_in.def KB GB) T c_runs_in c_column
  have c_walk := ok_walk (P := P) (w := w) (base := base) (F.d_walk.def KB GB) T M c_edges_in
  have c_join_count := ok_join_count (P := P) (w := w) (base := base) (F.d_join_count.def KB GB) T c_check_sorted c_walk
  have c_join_runs := ok_join_runs (P := P) (w := w) (base := base) (F.d_join_runs.def KB GB) T c_check_sorted c_walk
  have c_lonely := ok_lonely (P := P) (w := w) (base := base) (F.d_lonely.def KB GB) T c_check_sorted c_walk
  have c_join_looks := ok_join_looks (P := P) (w := w) (base := base) (F.d_join_looks.def KB GB) T M c_check_sorted c_edges_in
  have c_join_pairs := ok_join_pairs (P := P) (w := w) (base := base) (F.d_join_pairs.def KB GB) T c_check_sorted c_walk
  have c_join_groups := ok_join_groups (P := P) (w := w) (base := base) (F.d_join_groups.def KB GB) T M c_check_sorted c_walk c_check_column c_column
  have c_check_thin := ok_check_thin (P := P) (w := w) (base := base) (F.d_check_thin.def KB GB) T M c_is_number c_check_table c_check_column
  have c_best_in := ok_best_in (P := P) (w := w) (base := base) (F.d_best_in.def KB GB) T M
  have c_floors_in := ok_floors_in (P := P) (w := w) (base := base) (F.d_floors_in.def KB GB) T M c_best_in
  have c_Thinned := ok_thi (P := P) (w := w) (base := base) (C.thi.def KB GB) T Tt
  have c_fewest_thinned := ok_fewest_thinned (P := P) (w := w) (base := base) (F.d_fewest_thinned.def KB GB) T c_check_thin c_column c_floors_in
  have c_most_thinned := ok_most_thinned (P := P) (w := w) (base := base) (F.d_most_thinned.def KB GB) T M c_check_thin c_column c_runs_in
  have c_thin := ok_thin (P := P) (w := w) (base := base) (F.d_thin.def KB GB) T M c_check_thin c_column c_floors_in c_Thinned
  have c_count_thinned := ok_count_thinned (P := P) (w := w) (base := base) (F.d_count_thinned.def KB GB) T M c_check_thin c_column c_most_thinned
  have c_Thinned_shows := ok_th_shows (P := P) (w := w) (base := base) (C.mthi.def) T M Tt c_check_thin c_column c_is_number
  have c_check_pieces := ok_check_pieces (P := P) (w := w) (base := base) (F.d_check_pieces.def KB GB) T M (C.pie.bad KB GB C.nam.super C.nosup) c_is_number
  have c_ends_of := ok_ends_of (P := P) (w := w) (base := base) (F.d_ends_of.def KB GB) T
  have c_seam := ok_seam (P := P) (w := w) (base := base) (F.d_seam.def KB GB) T c_apart
  have c_steps_from := ok_steps_from (P := P) (w := w) (base := base) (F.d_steps_from.def KB GB) T c_ends_of
  have c_floors_of := ok_floors_of (P := P) (w := w) (base := base) (F.d_floors_of.def KB GB) T M c_steps_from c_seam
  have c_Seamed := ok_sei (P := P) (w := w) (base := base) (C.sea.def KB GB) T Ts
  have c_best_seams := ok_best_seams (P := P) (w := w) (base := base) (F.d_best_seams.def KB GB) T M c_check_pieces c_floors_of c_ends_of c_seam c_Seamed
  have c_least_seams := ok_least_seams (P := P) (w := w) (base := base) (F.d_least_seams.def KB GB) T M c_check_pieces c_floors_of
  have c_is_plan := ok_is_plan (P := P) (w := w) (base := base) (F.d_is_plan.def KB GB) T M
  have c_put_plan := ok_put_plan (P := P) (w := w) (base := base) (F.d_put_plan.def KB GB) T M c_Table
  have c_put_together_best := ok_put_together_best (P := P) (w := w) (base := base) (F.d_put_together_best.def KB GB) T Ts c_put_plan c_best_seams
  have c_Seamed_shows := ok_se_shows (P := P) (w := w) (base := base) (C.msea.def) T M Ts c_check_pieces c_is_plan
  have c__law_number := ok_law_number (P := P) (w := w) (base := base) (F.d_law_number.def KB GB) T M
  have c__law_take := ok_law_take (P := P) (w := w) (base := base) (F.d_law_take.def KB GB) T M c__law_number
  have c__law_pick := ok_law_pick (P := P) (w := w) (base := base) (F.d_law_pick.def KB GB) T M c__law_take
  have c__law_is_number := ok_law_is_number (P := P) (w := w) (base := base) (F.d_law_is_number.def KB GB) T
  have c__law_first := ok_law_first (P := P) (w := w) (base := base) (F.d_law_first.def KB GB) T
  have c__law_prices_word := ok_law_prices_word (P := P) (w := w) (base := base) (F.d_law_prices_word.def KB GB) T M c__law_is_number
  have c__law_odd := ok_law_odd (P := P) (w := w) (base := base) (F.d_law_odd.def KB GB) T c__law_pick
  have c__law_some_prices := ok_law_some_prices (P := P) (w := w) (base := base) (F.d_law_some_prices.def KB GB) T c__law_pick c__law_odd
  have c__law_rows := ok_law_rows (P := P) (w := w) (base := base) (F.d_law_rows.def KB GB) T M c__law_take
  have c__law_tables_right := ok_law_tables_right (P := P) (w := w) (base := base) (F1.def KB GB) T M W B1 C.thi.cls c__law_take c__law_pick c__law_odd c__law_some_prices c__law_prices_word c__law_is_number c__law_first c_sliding c_ends_of_most c_all_cost c_quiet c_page_cost c_thin c_fewest_thinned c_most_thinned c_count_thinned c_Thinned c_Thinned_shows
  have c__law_pieces_right := ok_law_pieces_right (P := P) (w := w) (base := base) (F2.def KB GB) T M W B2 C.sea.cls c_Table c__law_take c__law_pick c__law_odd c__law_some_prices c__law_prices_word c__law_first c_best_seams c_least_seams c_put_together_best c_Seamed c_Seamed_shows
  have c__law_joins_right := ok_law_joins_right (P := P) (w := w) (base := base) (F3.def KB GB) T M W B3 c_Table c__law_take c__law_rows c__law_odd c__law_first c_join_pairs c_join_count c_join_runs c_join_looks c_lonely c_join_groups
  exact ok_law FL T M c_Table c__law_take c__law_rows c__law_odd c__law_tables_right c__law_pieces_right c__law_joins_right
/-- THE LAW, at the head's heap -/
theorem law_at {l : PySem.W.OpenLaw} {w : World} {h : Heap} {fa CT CTh CSe cBT cBI cBC cBO cBP cTL cPc cCE c1 P1 c2 P2 c3 P3 : Addr} (X : K.In h) (G : h.Ns mainGlobals mg) (hfa : mg "law" = some (.ref fa)) (C : AllC l.prog K CT CTh CSe cBT cBI cBC cBO cBP cTL cPc cCE) (F : AllF K) (W : AllW K cBT cBI cBC cBO cBP cTL cPc)
    (F1 : FunC K "_law_tables_right" 81 c1 P1) (F2 : FunC K "_law_pieces_right" 82 c2 P2) (F3 : FunC K "_law_joins_right" 83 c3 P3) (t1 : h.get? P1 = some { cls := .none, data := .fields #[] }) (t2 : h.get? P2 = some { cls := .none, data := .fields #[] }) (t3 : h.get? P3 = some { cls := .none, data := .fields #[] })
    (n12 : P1 ≠ P2) (n13 : P1 ≠ P3) (n23 : P2 ≠ P3) : LawAtS l w K (L2.CX l.prog w) 11 63 "_law_script" mg fa h := by
  obtain ⟨fl, oc, od, kV, doc, pm, an, cd, ct, osl, nl, lk, cc, kp⟩ := F.d_law.ex
  have e := hfa.symm.trans (PySem.W.mg_of X G nl)
  cases e
  refine ⟨_, [(c1, P1), (c2, P2), (c3, P3)], spLaw K [(P1, (("_law_tables_right" : Str) ++ ".<locals>.") ++ "<lambda>"), (P2, (("_law_pieces_right" : Str) ++ ".<locals>.") ++ "<lambda>"), (P3, (("_law_joins_right" : Str) ++ ".<locals>.") ++ "<lambda>")], ?_, ?_, ?_, ?_, ?_, fun base KB GB TB => law_ok KB GB C F W F1 F2 F3 (fun_mk (st := top 84) lk cc kp) ⟨TB (c1, P1) (by simp), by simp, ?_⟩ ⟨TB (c2, P2) (by simp), by simp, ?_⟩ ⟨TB (c3, P3) (by simp), by simp, ?_⟩⟩
  · intro p hp
    simp only [List.mem_cons, List.not_mem_nil, or_false] at hp
    rcases hp with rfl | rfl | rfl <;> assumption
  · intro p hp
    simp only [List.mem_cons, List.not_mem_nil, or_false] at hp
    rcases hp with rfl | rfl | rfl
    · exact F1.code.no
    · exact F2.code.no
    · exact F3.code.no
  · intro p hp
    simp only [List.mem_cons, List.not_mem_nil, or_false] at hp
    rcases hp with rfl | rfl | rfl
    · exact F1.code.hd X
    · exact F2.code.hd X
    · exact F3.code.hd X
  · exact fun s u => .of_eq rfl
  · intro H b ns hlen _ hH hS
    refine ⟨b, rfl, ⟨ns, hS, hlen⟩, fun p hp => ?_, fun _ => rfl⟩
    simp only [List.mem_cons, List.not_mem_nil, or_false] at hp
    rcases hp with rfl | rfl | rfl
    · exact TabS.nil (hH (c1, P1) (by simp))
    · exact TabS.nil (hH (c2, P2) (by simp))
    · exact TabS.nil (hH (c3, P3) (by simp))
  · intro p hp e
    simp only [List.mem_cons, List.not_mem_nil, or_false] at hp
    rcases hp with rfl | rfl | rfl
    · rfl
    · exact absurd e (Ne.symm n12)
    · exact absurd e (Ne.symm n13)
  · intro p hp e
    simp only [List.mem_cons, List.not_mem_nil, or_false] at hp
    rcases hp with rfl | rfl | rfl
    · exact absurd e n12
    · rfl
    · exact absurd e (Ne.symm n23)
  · intro p hp e
    simp only [List.mem_cons, List.not_mem_nil, or_false] at hp
    rcases hp with rfl | rfl | rfl
    · exact absurd e n13
    · exact absurd e n23
    · rfl
end
end G


set_option Elab.async false
set_option linter.all false
open PySem PySem.W PyProof.Rows
set_option maxRecDepth 100000 in
set_option maxHeartbeats 0 in
theorem PySem.Challenge.cw_runcolumns_k64_whole_refused_more_holds : PySem.Challenge.rw_runcolumns_k64_whole_refused_more.Holds := by
  w_on; o_law; k_head; (case hw => w_witness2)
  k_fill
  refine LamX.walk_ofTs (l := PySem.Challenge.rw_runcolumns_k64_whole_refused_more) (n := 63) (k := 11) (x := "_law_script") (CX := fun w => L2.CX PySem.Challenge.pw_runcolumns_k64_whole_refused_more w) rfl (by decide) rfl ⟨rfl, by decide, by decide⟩ (fun w h Y => PySem.W.km_in_of Y) ?F ?G
  case G =>
    intro w H s e s' c
    obtain ⟨_, _, _, _, _, _, _, _, _, _, _, _, z⟩ := c
    exact z
  case F =>
    intro w mg fa h Y KX GN hmg
    refine' _root_.G.law_at KX GN hmg ?C ?F ?W ?F1 ?F2 ?F3 ?t1 ?t2 ?t3 ?n12 ?n13 ?n23
    (case F1 => refine ⟨⟨_, _, _, _, _, _, _, _, _, (by k_is), (by k_is), (by k_is), (by k_is)⟩, (by exact ⟨⟨_, _, _, _, _, _, _, _, _, _, (by k_is), (by rfl), (by rfl), (by rfl), (by rfl), (by rfl), (by rfl), (by decide)⟩, (by kernel_rfl)⟩)⟩)
    (case F2 => refine ⟨⟨_, _, _, _, _, _, _, _, _, (by k_is), (by k_is), (by k_is), (by k_is)⟩, (by exact ⟨⟨_, _, _, _, _, _, _, _, _, _, (by k_is), (by rfl), (by rfl), (by rfl), (by rfl), (by rfl), (by rfl), (by decide)⟩, (by kernel_rfl)⟩)⟩)
    (case F3 => refine ⟨⟨_, _, _, _, _, _, _, _, _, (by k_is), (by k_is), (by k_is), (by k_is)⟩, (by exact ⟨⟨_, _, _, _, _, _, _, _, _, _, (by k_is), (by rfl), (by rfl), (by rfl), (by rfl), (by rfl), (by rfl), (by decide)⟩, (by kernel_rfl)⟩)⟩)
    (case t1 => exact PySem.W.km_tabs_of Y _ (by k_mem))
    (case t2 => exact PySem.W.km_tabs_of Y _ (by k_mem))
    (case t3 => exact PySem.W.km_tabs_of Y _ (by k_mem))
    (case n12 => decide)
    (case n13 => decide)
    (case n23 => decide)
    case C =>
      refine' ⟨?nam, ?mrows, ?mcols, ?mval, ?mprice, ?mpieces, ?tab, ?thi, ?sea, ?eBT, ?eBI, ?eBC, ?eBO, ?eBP, ?eTL, ?pie, ?gCE, ?tf, ?mlen, ?mcol, ?mthi, ?msea, ?pro, ?n1, ?n2, ?n3, ?n4, ?nosup⟩
      (case nam => refine' ⟨?isinstance, ?len, ?all, ?any, ?sum, ?min, ?max, ?sorted, ?int, ?bool, ?str, ?tuple, ?list, ?dict, ?range, ?zip, ?enumerate, ?super⟩; (case isinstance => k_is); (case len => k_is); (case all => k_is); (case any => k_is); (case sum => k_is); (case min => k_is); (case max => k_is); (case sorted => k_is); (case int => k_is); (case bool => k_is); (case str => k_is); (case tuple => k_is); (case list => k_is); (case dict => k_is); (case range => k_is); (case zip => k_is); (case enumerate => k_is); (case super => k_is))
      (case mrows => exact ⟨⟨_, (by k_is)⟩⟩)
      (case mcols => exact ⟨⟨_, (by k_is)⟩⟩)
      (case mval => exact ⟨⟨_, (by k_is)⟩⟩)
      (case mprice => exact ⟨⟨_, (by k_is)⟩⟩)
      (case mpieces => exact ⟨⟨_, (by k_is)⟩⟩)
      (case tab => refine' ⟨?ns, ?pg, ?hd, ?po, ?sa, ?mks, ?kp, ?init⟩; (case ns => k_is); (case pg => k_is); (case hd => k_is); (case po => k_is); (case sa => k_is); (case mks => k_is); (case kp => k_is); (case init => exact ⟨⟨_, _, _, _, _, _, _, _, _, _, (by k_is), (by k_is), (by k_is), (by k_is), (by k_is)⟩⟩))
      (case thi => refine' ⟨?ns, ?pg, ?hd, ?po, ?sa, ?mks, ?kp, ?init⟩; (case ns => k_is); (case pg => k_is); (case hd => k_is); (case po => k_is); (case sa => k_is); (case mks => k_is); (case kp => k_is); (case init => exact ⟨⟨_, _, _, _, _, _, _, _, _, _, (by k_is), (by k_is), (by k_is), (by k_is), (by k_is)⟩⟩))
      (case sea => refine' ⟨?ns, ?pg, ?hd, ?po, ?sa, ?mks, ?kp, ?init⟩; (case ns => k_is); (case pg => k_is); (case hd => k_is); (case po => k_is); (case sa => k_is); (case mks => k_is); (case kp => k_is); (case init => exact ⟨⟨_, _, _, _, _, _, _, _, _, _, (by k_is), (by k_is), (by k_is), (by k_is), (by k_is)⟩⟩))
      (case eBT => refine' ⟨?ns, ?xin, ?kp, ?sb, ?ty⟩; (case ns => k_is); (case xin => k_exc); (case kp => k_is); (case sb => k_is); (case ty => k_is))
      (case eBI => refine' ⟨?ns, ?xin, ?kp, ?sb, ?ty⟩; (case ns => k_is); (case xin => k_exc); (case kp => k_is); (case sb => k_is); (case ty => k_is))
      (case eBC => refine' ⟨?ns, ?xin, ?kp, ?sb, ?ty⟩; (case ns => k_is); (case xin => k_exc); (case kp => k_is); (case sb => k_is); (case ty => k_is))
      (case eBO => refine' ⟨?ns, ?xin, ?kp, ?sb, ?ty⟩; (case ns => k_is); (case xin => k_exc); (case kp => k_is); (case sb => k_is); (case ty => k_is))
      (case eBP => refine' ⟨?ns, ?xin, ?kp, ?sb, ?ty⟩; (case ns => k_is); (case xin => k_exc); (case kp => k_is); (case sb => k_is); (case ty => k_is))
      (case eTL => refine' ⟨?ns, ?xin, ?kp, ?sb, ?ty⟩; (case ns => k_is); (case xin => k_exc); (case kp => k_is); (case sb => k_is); (case ty => k_is))
      (case pie => refine' ⟨?ns, ?cls, ?sa, ?exC, ?tyC, ?kC, ?ga, ?gg, ?hdC, ?sub, ?ve, ?tp, ?noI, ?cd, ?has, ?fn⟩; (case ns => k_is); (case cls => exact ⟨_, _, _, _, _, _, _, _, _, _, _, _, _, _, _, (by k_is), (by decide +kernel)⟩); (case sa => k_is); (case exC => k_is); (case tyC => k_is); (case kC => k_is); (case ga => k_is); (case gg => k_is); (case hdC => k_is); (case sub => k_is); (case ve => k_is); (case tp => k_is); (case noI => k_is); (case cd => exact ⟨_, (by k_is)⟩); (case has => ks_is); (case fn => exact ⟨_, _, _, _, _, _, _, _, _, _, _, _, _, _, _, _, _, _, _, _, (by k_is), (by k_is), (by k_is), (by k_is), (by rfl), (by kernel_rfl), (by k_is), (by k_is)⟩))
      (case gCE => k_is)
      (case tf => refine' ⟨?ha, ?hn, ?tk, ?hm, ?is, ?ty, ?o1, ?o2, ?o3, ?o4, ?t1, ?t2, ?t3, ?t4, ?t5, ?t6, ?t7, ?nR⟩; (case ha => k_is); (case hn => k_is); (case tk => k_is); (case hm => k_is); (case is => k_is); (case ty => k_is); (case o1 => k_is); (case o2 => k_is); (case o3 => k_is); (case o4 => k_is); (case t1 => k_is); (case t2 => k_is); (case t3 => k_is); (case t4 => k_is); (case t5 => k_is); (case t6 => k_is); (case t7 => k_is); (case nR => k_is))
      (case mlen => exact ⟨⟨_, _, _, _, _, _, _, _, _, _, (by k_is), (by k_is), (by k_is), (by k_is), (by k_is)⟩⟩)
      (case mcol => exact ⟨⟨_, _, _, _, _, _, _, _, _, _, (by k_is), (by k_is), (by k_is), (by k_is), (by k_is)⟩⟩)
      (case mthi => exact ⟨⟨_, _, _, _, _, _, _, _, _, _, (by k_is), (by k_is), (by k_is), (by k_is), (by k_is)⟩⟩)
      (case msea => exact ⟨⟨_, _, _, _, _, _, _, _, _, _, (by k_is), (by k_is), (by k_is), (by k_is), (by k_is)⟩⟩)
      (case pro => exact ⟨⟨_, _, _, _, _, _, _, _, _, _, _, _, (by k_is), (by k_is), (by k_is), (by k_is), (by k_is), (by k_is), (by k_is)⟩⟩)
      (case n1 => k_is)
      (case n2 => k_is)
      (case n3 => k_is)
      (case n4 => k_is)
      (case nosup => kernel_rfl)
    case F =>
      refine' ⟨?d_is_number, ?d_is_row, ?d_width_of, ?d_check_table, ?d_check_column, ?d_check_prices, ?d_apart, ?d_ones, ?d_check_pieces, ?d_ends_of, ?d_is_plan, ?d_put_plan, ?d_steps_from, ?d_floors_of, ?d_seam, ?d_best_seams, ?d_least_seams, ?d_put_together_best, ?d_runs_in, ?d_changes, ?d_runs_from, ?d_check_wide, ?d_page_cost, ?d_all_cost, ?d_sliding, ?d_change_cost, ?d_ends_of_most, ?d_quiet, ?d_check_sorted, ?d_walk, ?d_edges_in, ?d_join_count, ?d_join_pairs, ?d_join_runs, ?d_join_groups, ?d_join_looks, ?d_lonely, ?d_check_thin, ?d_floors_in, ?d_best_in, ?d_thin, ?d_fewest_thinned, ?d_most_thinned, ?d_count_thinned, ?d_law_number, ?d_law_take, ?d_law_pick, ?d_law_is_number, ?d_law_rows, ?d_law_odd, ?d_law_word, ?d_law_first, ?d_law_prices_word, ?d_law_some_prices, ?d_law⟩
      (case d_is_number => exact ⟨⟨_, _, _, _, _, _, _, _, _, _, (by k_is), (by k_is), (by k_is), (by k_is)⟩⟩)
      (case d_is_row => exact ⟨⟨_, _, _, _, _, _, _, _, _, _, (by k_is), (by k_is), (by k_is), (by k_is)⟩⟩)
      (case d_width_of => exact ⟨⟨_, _, _, _, _, _, _, _, _, _, (by k_is), (by k_is), (by k_is), (by k_is)⟩⟩)
      (case d_check_table => exact ⟨⟨_, _, _, _, _, _, _, _, _, _, (by k_is), (by k_is), (by k_is), (by k_is)⟩⟩)
      (case d_check_column => exact ⟨⟨_, _, _, _, _, _, _, _, _, _, (by k_is), (by k_is), (by k_is), (by k_is)⟩⟩)
      (case d_check_prices => exact ⟨⟨_, _, _, _, _, _, _, _, _, _, (by k_is), (by k_is), (by k_is), (by k_is)⟩⟩)
      (case d_apart => exact ⟨⟨_, _, _, _, _, _, _, _, _, _, (by k_is), (by k_is), (by k_is), (by k_is)⟩⟩)
      (case d_ones => exact ⟨⟨_, _, _, _, _, _, _, _, _, _, (by k_is), (by k_is), (by k_is), (by k_is)⟩⟩)
      (case d_check_pieces => exact ⟨⟨_, _, _, _, _, _, _, _, _, _, (by k_is), (by k_is), (by k_is), (by k_is)⟩⟩)
      (case d_ends_of => exact ⟨⟨_, _, _, _, _, _, _, _, _, _, (by k_is), (by k_is), (by k_is), (by k_is)⟩⟩)
      (case d_is_plan => exact ⟨⟨_, _, _, _, _, _, _, _, _, _, (by k_is), (by k_is), (by k_is), (by k_is)⟩⟩)
      (case d_put_plan => exact ⟨⟨_, _, _, _, _, _, _, _, _, _, (by k_is), (by k_is), (by k_is), (by k_is)⟩⟩)
      (case d_steps_from => exact ⟨⟨_, _, _, _, _, _, _, _, _, _, (by k_is), (by k_is), (by k_is), (by k_is)⟩⟩)
      (case d_floors_of => exact ⟨⟨_, _, _, _, _, _, _, _, _, _, (by k_is), (by k_is), (by k_is), (by k_is)⟩⟩)
      (case d_seam => exact ⟨⟨_, _, _, _, _, _, _, _, _, _, (by k_is), (by k_is), (by k_is), (by k_is)⟩⟩)
      (case d_best_seams => exact ⟨⟨_, _, _, _, _, _, _, _, _, _, (by k_is), (by k_is), (by k_is), (by k_is)⟩⟩)
      (case d_least_seams => exact ⟨⟨_, _, _, _, _, _, _, _, _, _, (by k_is), (by k_is), (by k_is), (by k_is)⟩⟩)
      (case d_put_together_best => exact ⟨⟨_, _, _, _, _, _, _, _, _, _, (by k_is), (by k_is), (by k_is), (by k_is)⟩⟩)
      (case d_runs_in => exact ⟨⟨_, _, _, _, _, _, _, _, _, _, (by k_is), (by k_is), (by k_is), (by k_is)⟩⟩)
      (case d_changes => exact ⟨⟨_, _, _, _, _, _, _, _, _, _, (by k_is), (by k_is), (by k_is), (by k_is)⟩⟩)
      (case d_runs_from => exact ⟨⟨_, _, _, _, _, _, _, _, _, _, (by k_is), (by k_is), (by k_is), (by k_is)⟩⟩)
      (case d_check_wide => exact ⟨⟨_, _, _, _, _, _, _, _, _, _, (by k_is), (by k_is), (by k_is), (by k_is)⟩⟩)
      (case d_page_cost => exact ⟨⟨_, _, _, _, _, _, _, _, _, _, (by k_is), (by k_is), (by k_is), (by k_is)⟩⟩)
      (case d_all_cost => exact ⟨⟨_, _, _, _, _, _, _, _, _, _, (by k_is), (by k_is), (by k_is), (by k_is)⟩⟩)
      (case d_sliding => exact ⟨⟨_, _, _, _, _, _, _, _, _, _, (by k_is), (by k_is), (by k_is), (by k_is)⟩⟩)
      (case d_change_cost => exact ⟨⟨_, _, _, _, _, _, _, _, _, _, (by k_is), (by k_is), (by k_is), (by k_is)⟩⟩)
      (case d_ends_of_most => exact ⟨⟨_, _, _, _, _, _, _, _, _, _, (by k_is), (by k_is), (by k_is), (by k_is)⟩⟩)
      (case d_quiet => exact ⟨⟨_, _, _, _, _, _, _, _, _, _, (by k_is), (by k_is), (by k_is), (by k_is)⟩⟩)
      (case d_check_sorted => exact ⟨⟨_, _, _, _, _, _, _, _, _, _, (by k_is), (by k_is), (by k_is), (by k_is)⟩⟩)
      (case d_walk => exact ⟨⟨_, _, _, _, _, _, _, _, _, _, (by k_is), (by k_is), (by k_is), (by k_is)⟩⟩)
      (case d_edges_in => exact ⟨⟨_, _, _, _, _, _, _, _, _, _, (by k_is), (by k_is), (by k_is), (by k_is)⟩⟩)
      (case d_join_count => exact ⟨⟨_, _, _, _, _, _, _, _, _, _, (by k_is), (by k_is), (by k_is), (by k_is)⟩⟩)
      (case d_join_pairs => exact ⟨⟨_, _, _, _, _, _, _, _, _, _, (by k_is), (by k_is), (by k_is), (by k_is)⟩⟩)
      (case d_join_runs => exact ⟨⟨_, _, _, _, _, _, _, _, _, _, (by k_is), (by k_is), (by k_is), (by k_is)⟩⟩)
      (case d_join_groups => exact ⟨⟨_, _, _, _, _, _, _, _, _, _, (by k_is), (by k_is), (by k_is), (by k_is)⟩⟩)
      (case d_join_looks => exact ⟨⟨_, _, _, _, _, _, _, _, _, _, (by k_is), (by k_is), (by k_is), (by k_is)⟩⟩)
      (case d_lonely => exact ⟨⟨_, _, _, _, _, _, _, _, _, _, (by k_is), (by k_is), (by k_is), (by k_is)⟩⟩)
      (case d_check_thin => exact ⟨⟨_, _, _, _, _, _, _, _, _, _, (by k_is), (by k_is), (by k_is), (by k_is)⟩⟩)
      (case d_floors_in => exact ⟨⟨_, _, _, _, _, _, _, _, _, _, (by k_is), (by k_is), (by k_is), (by k_is)⟩⟩)
      (case d_best_in => exact ⟨⟨_, _, _, _, _, _, _, _, _, _, (by k_is), (by k_is), (by k_is), (by k_is)⟩⟩)
      (case d_thin => exact ⟨⟨_, _, _, _, _, _, _, _, _, _, (by k_is), (by k_is), (by k_is), (by k_is)⟩⟩)
      (case d_fewest_thinned => exact ⟨⟨_, _, _, _, _, _, _, _, _, _, (by k_is), (by k_is), (by k_is), (by k_is)⟩⟩)
      (case d_most_thinned => exact ⟨⟨_, _, _, _, _, _, _, _, _, _, (by k_is), (by k_is), (by k_is), (by k_is)⟩⟩)
      (case d_count_thinned => exact ⟨⟨_, _, _, _, _, _, _, _, _, _, (by k_is), (by k_is), (by k_is), (by k_is)⟩⟩)
      (case d_law_number => exact ⟨⟨_, _, _, _, _, _, _, _, _, _, (by k_is), (by k_is), (by k_is), (by k_is)⟩⟩)
      (case d_law_take => exact ⟨⟨_, _, _, _, _, _, _, _, _, _, (by k_is), (by k_is), (by k_is), (by k_is)⟩⟩)
      (case d_law_pick => exact ⟨⟨_, _, _, _, _, _, _, _, _, _, (by k_is), (by k_is), (by k_is), (by k_is)⟩⟩)
      (case d_law_is_number => exact ⟨⟨_, _, _, _, _, _, _, _, _, _, (by k_is), (by k_is), (by k_is), (by k_is)⟩⟩)
      (case d_law_rows => exact ⟨⟨_, _, _, _, _, _, _, _, _, _, (by k_is), (by k_is), (by k_is), (by k_is)⟩⟩)
      (case d_law_odd => exact ⟨⟨_, _, _, _, _, _, _, _, _, _, (by k_is), (by k_is), (by k_is), (by k_is)⟩⟩)
      (case d_law_word => exact ⟨⟨_, _, _, _, _, _, _, _, _, _, (by k_is), (by k_is), (by k_is), (by k_is)⟩⟩)
      (case d_law_first => exact ⟨⟨_, _, _, _, _, _, _, _, _, _, (by k_is), (by k_is), (by k_is), (by k_is)⟩⟩)
      (case d_law_prices_word => exact ⟨⟨_, _, _, _, _, _, _, _, _, _, (by k_is), (by k_is), (by k_is), (by k_is)⟩⟩)
      (case d_law_some_prices => exact ⟨⟨_, _, _, _, _, _, _, _, _, _, (by k_is), (by k_is), (by k_is), (by k_is)⟩⟩)
      (case d_law => exact ⟨⟨_, _, _, _, _, _, _, _, _, _, (by k_is), (by k_is), (by k_is), (by k_is)⟩⟩)
    case W =>
      refine' ⟨?kt, ?kc, ?ki, ?kp, ?ko, ?kx, ?kl, ?tt, ?ct, ?cc, ?it, ?ic, ?ii, ?pt, ?pc, ?pi, ?pp, ?ot, ?oc, ?oi, ?op, ?oo, ?xt, ?xc, ?xi, ?xp, ?xo, ?xx, ?lt, ?lc, ?li, ?lp, ?lo, ?lx, ?ll⟩
      (case kt => refine' ⟨?sb, ?is, ?ty⟩; (case sb => k_is); (case is => k_is); (case ty => k_is))
      (case kc => refine' ⟨?sb, ?is, ?ty⟩; (case sb => k_is); (case is => k_is); (case ty => k_is))
      (case ki => refine' ⟨?sb, ?is, ?ty⟩; (case sb => k_is); (case is => k_is); (case ty => k_is))
      (case kp => refine' ⟨?sb, ?is, ?ty⟩; (case sb => k_is); (case is => k_is); (case ty => k_is))
      (case ko => refine' ⟨?sb, ?is, ?ty⟩; (case sb => k_is); (case is => k_is); (case ty => k_is))
      (case kx => refine' ⟨?sb, ?is, ?ty⟩; (case sb => k_is); (case is => k_is); (case ty => k_is))
      (case kl => refine' ⟨?sb, ?is, ?ty⟩; (case sb => k_is); (case is => k_is); (case ty => k_is))
      (case tt => k_is)
      (case ct => k_is)
      (case cc => k_is)
      (case it => k_is)
      (case ic => k_is)
      (case ii => k_is)
      (case pt => k_is)
      (case pc => k_is)
      (case pi => k_is)
      (case pp => k_is)
      (case ot => k_is)
      (case oc => k_is)
      (case oi => k_is)
      (case op => k_is)
      (case oo => k_is)
      (case xt => k_is)
      (case xc => k_is)
      (case xi => k_is)
      (case xp => k_is)
      (case xo => k_is)
      (case xx => k_is)
      (case lt => k_is)
      (case lc => k_is)
      (case li => k_is)
      (case lp => k_is)
      (case lo => k_is)
      (case lx => k_is)
      (case ll => k_is)

