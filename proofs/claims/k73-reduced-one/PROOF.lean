import PyProof.Rows.All
import Wide.All
import OpenK.AllK
import Wide.FinOn
import HandS.ForMost
import HandS.Gcd
import HandS.HeadNt
import HandS.Head3
import HandS.DictComp
import HandS.ForExc
import KE.KDictKeyed
import KE.SortData
import HandS.IsInst
import HandS.Property
import HandS.ClsMeth
import HandS.Defaults
import KE.KDictCopyH
import KE.KDictSum
import HandS.Keys
import HandS.TupAny
import HandS.Wide
import HandS.Text
import HandS.SortKw
import KE.DataMinMax
import KE.DatumOrd
import HandS.Conv
import HandS.SetTxt0
import HandS.Set
import HandS.SetFor
import HandS.Strs
import HandS.ExcIs
import HandS.WordsExc
import HandS.HeadEnd
import PySem.Challenge.RW_kindsoftables_k73_reduced_one
set_option Elab.async false
set_option linter.all false
set_option maxRecDepth 100000
namespace Pd
end Pd
/-! the head: names, the run of the top -/
namespace Pd73
open PySem PySem.Spec PyProof.Rows L2 Pd
def top (i : Nat) : Stmt := PySem.Challenge.pw_kindsoftables_k73_reduced_one.main.body.getD i (.Pass ⟨0, 0, 0, 0⟩)
def inC (c : Stmt) (j : Nat) : Stmt := match c with
  | .ClassDef (body := b) .. => b.getD j (.Pass ⟨0, 0, 0, 0⟩)
  | s => s
/-- the record of a property: its def first -/
def recAt (K : PySem.W.Frag) (C : Addr) (T : String) (m : Str) : Bool := match PySem.W.recIn K (He.ma K C m) T with
  | some (.ref _ :: _) => true
  | _ => false
theorem recAt_ok {K : PySem.W.Frag} {C : Addr} {T : String} {m : Str} (h : recAt K C T m = true) : ∃ rest, PySem.W.recIn K (He.ma K C m) T = some (.ref (He5.wf K C T m) :: rest) := by
  unfold recAt at h
  unfold He5.wf
  split at h
  · rename_i f r e
    exact ⟨r, by rw [e]⟩
  · cases h
def fa : List He.Fa := [.glo "law", .cls "Ratio", .noat "Ratio" "num", .noat "Ratio" "den", .free "isinstance", .glo "Ratio", .mkr "Ratio", .free "bool", .glo "SIZES", .exc "WrongSize", .glo "WrongSize", .free "min", .free "len", .free "range", .free "tuple", .free "sorted", .glo "least_rotation", .glo "term_key", .meth "Ratio" "__add__", .cls "Poly", .noat "Poly" "kind", .meth "Ratio" "__bool__", .noat "Poly" "coefficients", .noat "Poly" "terms", .mkr "Poly", .glo "Poly", .free "max", .glo "content_of", .glo "same_kind", .glo "poly_of", .meth "Ratio" "__mul__", .meth "Poly" "scaled", .meth "Poly" "__neg__", .meth "Poly" "__add__", .free "set", .glo "power_trace", .meth "Poly" "__mul__", .meth "Poly" "__sub__", .meth "Poly" "used_letters", .exc "InvalidPolynomial", .glo "InvalidPolynomial", .free "list", .glo "check_size", .glo "only_letter", .glo "elementary", .glo "continued", .glo "letter_power", .meth "Poly" "__getitem__", .free "abs", .glo "_law_cell", .free "int", .free "sum", .glo "_law_one", .glo "_law_times", .glo "_law_key", .glo "_law_same_number", .glo "_law_number", .glo "_law_cut", .glo "_law_is_short", .glo "_law_own", .glo "_law_in_one", .glo "_law_newton", .glo "_law_powers", .glo "_law_joined", .glo "_law_closed", .exm "WrongSize" "TableError" true, .exm "InvalidPolynomial" "TableError" true, .free "ValueError", .glo "reduce_one", .glo "TableError", .glo "_law_refusal", .glo "_law_menu", .glo "_law_poly", .glo "_law_refuses", .glo "_law_matrix", .glo "_law_value_stays", .glo "_law_nothing", .glo "_law_equal", .meth "Poly" "__len__", .glo "_law_rows", .glo "_law_same_poly"]
def gs : List (PySem.W.Frag → Bool) := [fun K => He.eqO (PySem.W.nsIn K mainGlobals "gcd") (some (some (.builtin "math.gcd"))),
  fun K => He.eqO (PySem.W.findIn K (.ref (He.ga K "Ratio")) "__class__") (some (some (.builtin "object.__class__"))),
  fun K => He.eqO (PySem.W.specialIn K (.builtin "object.__class__") "__get__") (some (some (.builtin "getset_descriptor.__get__"))),
  fun K => decide (PySem.W.takesIn K (.builtin "object.__class__") = some true),
  fun K => decide (PySem.W.mroIn K (He.ga K "Ratio") (.type "object") = some true),
  fun K => He.tupB K "SIZES" [.int 1, .int 2, .int 3],
  fun K => PySem.W.selfFirst K (He.ga K "Ratio"),
  fun K => He.eqO (PySem.W.findIn K (.ref (He.ga K "Poly")) "__class__") (some (some (.builtin "object.__class__"))),
  fun K => decide (PySem.W.mroIn K (He.ga K "Poly") (.type "object") = some true),
  fun K => PySem.W.selfFirst K (He.ga K "Poly"),
  fun K => He5.wrapB K (He.ga K "Poly") "staticmethod" "staticmethod.__get__" "constant",
  fun K => PySem.W.readsIn K (He.ga K "Poly") (.type "type"),
  fun K => He.eqO (PySem.W.specialIn K (.ref (He.ga K "Poly")) "__getattribute__") (some (some (.builtin "type.__getattribute__"))),
  fun K => PySem.W.keepIn K (.ref (He5.wf K (He.ga K "Poly") "staticmethod" "constant")),
  fun K => He.eqO (PySem.W.findIn K (.ref (He.ga K "Poly")) "degree") (some (some (.ref (He.ma K (He.ga K "Poly") "degree")))),
  fun K => He.eqO (PySem.W.specialIn K (.ref (He.ma K (He.ga K "Poly") "degree")) "__get__") (some (some (.builtin "property.__get__"))),
  fun K => decide (PySem.W.takesIn K (.ref (He.ma K (He.ga K "Poly") "degree")) = some true),
  fun K => recAt K (He.ga K "Poly") "property" "degree",
  fun K => PySem.W.fnIn K (He.ma K (He.ga K "Poly") "__getitem__"),
  fun K => decide ([.ref (He.ga K "WrongSize"), .ref (He.ga K "InvalidPolynomial"), .type "ValueError"].map (PySem.W.kitOne K (.ref (He.ga K "WrongSize"))) = [true, false, true].map some),
  fun K => He.eqO (PySem.W.findIn K (.ref (He.ga K "WrongSize")) "__getattribute__") (some (some (.builtin "BaseException.__getattribute__"))),
  fun K => He.eqO (PySem.W.findIn K (.ref (He.ga K "WrongSize")) "__getattr__") (some none),
  fun K => decide (PySem.W.subIn K (.ref (He.ga K "WrongSize")) (.type "BaseException") = some true),
  fun K => PySem.W.hasDictIn K (He.ga K "WrongSize"),
  fun K => He.eqO (PySem.W.findIn K (.ref (He.ga K "WrongSize")) "__class__") (some (some (.builtin "object.__class__"))),
  fun K => decide (PySem.W.mroIn K (He.ga K "WrongSize") (.type "object") = some true),
  fun K => decide ([.ref (He.ga K "WrongSize"), .ref (He.ga K "InvalidPolynomial"), .type "ValueError"].map (PySem.W.kitOne K (.ref (He.ga K "InvalidPolynomial"))) = [false, true, true].map some),
  fun K => He.eqO (PySem.W.findIn K (.ref (He.ga K "InvalidPolynomial")) "__getattribute__") (some (some (.builtin "BaseException.__getattribute__"))),
  fun K => He.eqO (PySem.W.findIn K (.ref (He.ga K "InvalidPolynomial")) "__getattr__") (some none),
  fun K => decide (PySem.W.subIn K (.ref (He.ga K "InvalidPolynomial")) (.type "BaseException") = some true),
  fun K => PySem.W.hasDictIn K (He.ga K "InvalidPolynomial"),
  fun K => He.eqO (PySem.W.findIn K (.ref (He.ga K "InvalidPolynomial")) "__class__") (some (some (.builtin "object.__class__"))),
  fun K => decide (PySem.W.mroIn K (He.ga K "InvalidPolynomial") (.type "object") = some true)]
def fn : List He5.DefA := [⟨fun K => (He.ma K (He.ga K "Ratio") "__init__"), "__init__", "Ratio.__init__", defArgs (inC (top 12) 0), defBody (inC (top 12) 0), defScope (inC (top 12) 0), [.int 1], []⟩,
  ⟨fun K => (He.ma K (He.ga K "Ratio") "__add__"), "__add__", "Ratio.__add__", defArgs (inC (top 12) 2), defBody (inC (top 12) 2), defScope (inC (top 12) 2), [], []⟩,
  ⟨fun K => (He.ma K (He.ga K "Ratio") "__sub__"), "__sub__", "Ratio.__sub__", defArgs (inC (top 12) 3), defBody (inC (top 12) 3), defScope (inC (top 12) 3), [], []⟩,
  ⟨fun K => (He.ma K (He.ga K "Ratio") "__mul__"), "__mul__", "Ratio.__mul__", defArgs (inC (top 12) 4), defBody (inC (top 12) 4), defScope (inC (top 12) 4), [], []⟩,
  ⟨fun K => (He.ma K (He.ga K "Ratio") "__neg__"), "__neg__", "Ratio.__neg__", defArgs (inC (top 12) 6), defBody (inC (top 12) 6), defScope (inC (top 12) 6), [], []⟩,
  ⟨fun K => (He.ma K (He.ga K "Ratio") "__bool__"), "__bool__", "Ratio.__bool__", defArgs (inC (top 12) 8), defBody (inC (top 12) 8), defScope (inC (top 12) 8), [], []⟩,
  ⟨fun K => (He.ga K "check_size"), "check_size", "check_size", defArgs (top 16), defBody (top 16), defScope (top 16), [], []⟩,
  ⟨fun K => (He.ga K "least_rotation"), "least_rotation", "least_rotation", defArgs (top 18), defBody (top 18), defScope (top 18), [], []⟩,
  ⟨fun K => (He.ga K "term_key"), "term_key", "term_key", defArgs (top 19), defBody (top 19), defScope (top 19), [], []⟩,
  ⟨fun K => (He.ga K "content_of"), "content_of", "content_of", defArgs (top 20), defBody (top 20), defScope (top 20), [], []⟩,
  ⟨fun K => (He.ma K (He.ga K "Poly") "__init__"), "__init__", "Poly.__init__", defArgs (inC (top 22) 0), defBody (inC (top 22) 0), defScope (inC (top 22) 0), [], []⟩,
  ⟨fun K => (He.ga K "poly_of"), "poly_of", "poly_of", defArgs (top 23), defBody (top 23), defScope (top 23), [], []⟩,
  ⟨fun K => (He.ga K "same_kind"), "same_kind", "same_kind", defArgs (top 24), defBody (top 24), defScope (top 24), [], []⟩,
  ⟨fun K => (He5.wf K (He.ga K "Poly") "staticmethod" "constant"), "constant", "Poly.constant", defArgs (inC (top 22) 2), defBody (inC (top 22) 2), defScope (inC (top 22) 2), [], []⟩,
  ⟨fun K => (He5.wf K (He.ga K "Poly") "property" "degree"), "degree", "Poly.degree", defArgs (inC (top 22) 3), defBody (inC (top 22) 3), defScope (inC (top 22) 3), [], []⟩,
  ⟨fun K => (He.ma K (He.ga K "Poly") "__add__"), "__add__", "Poly.__add__", defArgs (inC (top 22) 4), defBody (inC (top 22) 4), defScope (inC (top 22) 4), [], []⟩,
  ⟨fun K => (He.ma K (He.ga K "Poly") "scaled"), "scaled", "Poly.scaled", defArgs (inC (top 22) 13), defBody (inC (top 22) 13), defScope (inC (top 22) 13), [], []⟩,
  ⟨fun K => (He.ma K (He.ga K "Poly") "__neg__"), "__neg__", "Poly.__neg__", defArgs (inC (top 22) 7), defBody (inC (top 22) 7), defScope (inC (top 22) 7), [], []⟩,
  ⟨fun K => (He.ma K (He.ga K "Poly") "__sub__"), "__sub__", "Poly.__sub__", defArgs (inC (top 22) 5), defBody (inC (top 22) 5), defScope (inC (top 22) 5), [], []⟩,
  ⟨fun K => (He.ma K (He.ga K "Poly") "__mul__"), "__mul__", "Poly.__mul__", defArgs (inC (top 22) 6), defBody (inC (top 22) 6), defScope (inC (top 22) 6), [], []⟩,
  ⟨fun K => (He.ma K (He.ga K "Poly") "__len__"), "__len__", "Poly.__len__", defArgs (inC (top 22) 9), defBody (inC (top 22) 9), defScope (inC (top 22) 9), [], []⟩,
  ⟨fun K => (He.ma K (He.ga K "Poly") "__getitem__"), "__getitem__", "Poly.__getitem__", defArgs (inC (top 22) 12), defBody (inC (top 22) 12), defScope (inC (top 22) 12), [], []⟩,
  ⟨fun K => (He.ma K (He.ga K "Poly") "used_letters"), "used_letters", "Poly.used_letters", defArgs (inC (top 22) 16), defBody (inC (top 22) 16), defScope (inC (top 22) 16), [], []⟩,
  ⟨fun K => (He.ga K "power_trace"), "power_trace", "power_trace", defArgs (top 29), defBody (top 29), defScope (top 29), [], []⟩,
  ⟨fun K => (He.ga K "letter_power"), "letter_power", "letter_power", defArgs (top 30), defBody (top 30), defScope (top 30), [], []⟩,
  ⟨fun K => (He.ga K "elementary"), "elementary", "elementary", defArgs (top 26), defBody (top 26), defScope (top 26), [], []⟩,
  ⟨fun K => (He.ga K "only_letter"), "only_letter", "only_letter", defArgs (top 28), defBody (top 28), defScope (top 28), [], []⟩,
  ⟨fun K => (He.ga K "continued"), "continued", "continued", defArgs (top 31), defBody (top 31), defScope (top 31), [], []⟩,
  ⟨fun K => (He.ga K "reduce_one"), "reduce_one", "reduce_one", defArgs (top 27), defBody (top 27), defScope (top 27), [], []⟩,
  ⟨fun K => (He.ga K "_law_cell"), "_law_cell", "_law_cell", defArgs (top 33), defBody (top 33), defScope (top 33), [], []⟩,
  ⟨fun K => (He.ga K "_law_number"), "_law_number", "_law_number", defArgs (top 34), defBody (top 34), defScope (top 34), [], []⟩,
  ⟨fun K => (He.ga K "_law_menu"), "_law_menu", "_law_menu", defArgs (top 35), defBody (top 35), defScope (top 35), [], []⟩,
  ⟨fun K => (He.ga K "_law_matrix"), "_law_matrix", "_law_matrix", defArgs (top 36), defBody (top 36), defScope (top 36), [], []⟩,
  ⟨fun K => (He.ga K "_law_times"), "_law_times", "_law_times", defArgs (top 37), defBody (top 37), defScope (top 37), [], []⟩,
  ⟨fun K => (He.ga K "_law_one"), "_law_one", "_law_one", defArgs (top 38), defBody (top 38), defScope (top 38), [], []⟩,
  ⟨fun K => (He.ga K "_law_in_one"), "_law_in_one", "_law_in_one", defArgs (top 39), defBody (top 39), defScope (top 39), [], []⟩,
  ⟨fun K => (He.ga K "_law_poly"), "_law_poly", "_law_poly", defArgs (top 40), defBody (top 40), defScope (top 40), [], []⟩,
  ⟨fun K => (He.ga K "_law_same_number"), "_law_same_number", "_law_same_number", defArgs (top 41), defBody (top 41), defScope (top 41), [], []⟩,
  ⟨fun K => (He.ga K "_law_key"), "_law_key", "_law_key", defArgs (top 42), defBody (top 42), defScope (top 42), [], []⟩,
  ⟨fun K => (He.ga K "_law_rows"), "_law_rows", "_law_rows", defArgs (top 43), defBody (top 43), defScope (top 43), [], []⟩,
  ⟨fun K => (He.ga K "_law_same_poly"), "_law_same_poly", "_law_same_poly", defArgs (top 44), defBody (top 44), defScope (top 44), [], []⟩,
  ⟨fun K => (He.ga K "_law_joined"), "_law_joined", "_law_joined", defArgs (top 45), defBody (top 45), defScope (top 45), [], []⟩,
  ⟨fun K => (He.ga K "_law_closed"), "_law_closed", "_law_closed", defArgs (top 46), defBody (top 46), defScope (top 46), [], []⟩,
  ⟨fun K => (He.ga K "_law_cut"), "_law_cut", "_law_cut", defArgs (top 47), defBody (top 47), defScope (top 47), [], []⟩,
  ⟨fun K => (He.ga K "_law_powers"), "_law_powers", "_law_powers", defArgs (top 48), defBody (top 48), defScope (top 48), [], []⟩,
  ⟨fun K => (He.ga K "_law_newton"), "_law_newton", "_law_newton", defArgs (top 49), defBody (top 49), defScope (top 49), [], []⟩,
  ⟨fun K => (He.ga K "_law_own"), "_law_own", "_law_own", defArgs (top 50), defBody (top 50), defScope (top 50), [], []⟩,
  ⟨fun K => (He.ga K "_law_equal"), "_law_equal", "_law_equal", defArgs (top 51), defBody (top 51), defScope (top 51), [], []⟩,
  ⟨fun K => (He.ga K "_law_is_short"), "_law_is_short", "_law_is_short", defArgs (top 52), defBody (top 52), defScope (top 52), [], []⟩,
  ⟨fun K => (He.ga K "_law_value_stays"), "_law_value_stays", "_law_value_stays", defArgs (top 53), defBody (top 53), defScope (top 53), [], []⟩,
  ⟨fun K => (He.ga K "_law_nothing"), "_law_nothing", "_law_nothing", defArgs (top 54), defBody (top 54), defScope (top 54), [], []⟩,
  ⟨fun K => (He.ga K "_law_refusal"), "_law_refusal", "_law_refusal", defArgs (top 55), defBody (top 55), defScope (top 55), [], []⟩,
  ⟨fun K => (He.ga K "_law_refuses"), "_law_refuses", "_law_refuses", defArgs (top 56), defBody (top 56), defScope (top 56), [], []⟩,
  ⟨fun K => (He.ga K "law"), "law", "law", defArgs (top 57), defBody (top 57), defScope (top 57), [], []⟩]
def obsP (K : PySem.W.Frag) : He.AlD := ((fa.all fun f => f.ok K) && ((gs.all fun f => f K) && fn.all fun d => d.ok K), fn.map fun d => He5.fnA K (d.at_ K))
def valP : He.AlD := (true, fn.map He5.DefA.val)
def SaysP (K : PySem.W.Frag) : Prop := obsP K = valP
def obsPG (n : Nat) (g : Addr → Option Obj) : He.AlD := obsP (He.frG g (He5.asA g n))
def hookP (n : Nat) : PySem.W.Hook where
  α := He.AlD
  obs := fun s => obsPG n s.heap.get?
  val := fun _ => valP
  says := fun _ h => ∃ K : PySem.W.Frag, K.In h ∧ SaysP K
  of := fun _ _ e => ⟨_, He.frG_in, e⟩
  keeps := fun _ _ _ ⟨K, hK, c⟩ k => ⟨K, PySem.W.Frag.In.keeps hK k, c⟩
section
variable {K : PySem.W.Frag}
theorem SaysP.c1 (c : SaysP K) : ((fa.all fun f => f.ok K) && ((gs.all fun f => f K) && fn.all fun d => d.ok K)) = true := congrArg (fun z : He.AlD => z.1) c
theorem SaysP.fact (c : SaysP K) (i : Nat) {f : He.Fa} (h : fa[i]? = some f := by rfl) : f.ok K = true := List.all_eq_true.mp (He.ba c.c1).1 f (List.mem_of_getElem? h)
theorem SaysP.ext (c : SaysP K) (i : Nat) {f : PySem.W.Frag → Bool} (h : gs[i]? = some f := by rfl) : f K = true := List.all_eq_true.mp (He.ba (He.ba c.c1).2).1 f (List.mem_of_getElem? h)
theorem SaysP.def_ (c : SaysP K) (i : Nat) {d : He5.DefA} (h : fn[i]? = some d := by rfl) : ∃ fd, FunD K d.name d.qual d.params d.body d.scope (d.dvs K) (d.kws K) (d.at_ K) fd := by
  have e : fn.map (fun d => He5.fnA K (d.at_ K)) = fn.map He5.DefA.val := congrArg (fun z : He.AlD => z.2) c
  have e2 : (fn.map fun d => He5.fnA K (d.at_ K))[i]? = (fn.map He5.DefA.val)[i]? := by rw [e]
  rw [List.getElem?_map, List.getElem?_map, h] at e2
  exact He5.DefA.funD (Option.some.inj e2) (List.all_eq_true.mp (He.ba (He.ba c.c1).2).2 d (List.mem_of_getElem? h))
end
end Pd73
set_option maxHeartbeats 0
namespace Pd73
open PySem PySem.Spec PyProof.Rows L2 Pd
abbrev R : PySem.W.OpenRow := PySem.W.OpenLaw.row PySem.Challenge.rw_kindsoftables_k73_reduced_one
def loose0 : List Str := ["_wall", "__name__", "TableError", "ZeroDivisor", "InvalidNumber", "WrongSize", "WrongKind", "InvalidPolynomial", "DIGITS", "MOST_DIGITS", "Ratio", "natural", "SIZES", "check_size", "least_rotation", "term_key", "content_of", "Poly", "poly_of", "same_kind", "elementary", "reduce_one", "only_letter", "power_trace", "letter_power", "continued", "_law_cell", "_law_number", "_law_menu", "_law_matrix"]
def loose1 : List Str := ["_law_times", "_law_one", "_law_in_one", "_law_poly", "_law_same_number", "_law_key", "_law_rows", "_law_same_poly", "_law_joined", "_law_closed", "_law_cut", "_law_powers", "_law_newton", "_law_own", "_law_equal", "_law_is_short", "_law_value_stays", "_law_nothing", "_law_refusal", "_law_refuses"]
def looseA : List Str := loose0 ++ loose1
abbrev vw : Program := PySem.W.view R.prog [0, 57]
abbrev hk : PySem.W.Hook := hookP 6
def ob (s : PySem.W.SharedT) : He.AlD := obsPG 6 (HandSHeadRun.getT s)
theorem ob_eq (s : PySem.W.SharedT) : ob s = hk.obs s.abs := by
  have e : HandSHeadRun.getT s = s.abs.heap.get? := funext (HandSHeadRun.getT_eq s)
  show obsPG 6 (HandSHeadRun.getT s) = obsPG 6 s.abs.heap.get?
  rw [e]
theorem run (w : World) : HandSHeadRun.RunEqI R vw hk ob 6000 looseA w := by
  unfold HandSHeadRun.RunEqI
  kernel_rfl
end Pd73

/-! Pd: plain data over the hand layer. D: a Python value as data; Is H v d: in the abstract heap H the value v reads as d; tD f: the reading of an expression whose denotation is f. -/
namespace Pd
open PySem PySem.Spec PyProof.Rows L2

inductive D where
  | non | bl (b : Bool) | int (i : Int) | str (s : Str)
  | tup (xs : List D) | lst (xs : List D)
  /-- a dict whose keys are tuples: keys, values -/
  | dic (ks vs : List D)
  /-- a dict whose keys are ints and texts -/
  | dik (ks : List Key) (vs : List D)
  /-- an instance of the own class number c: its attributes -/
  | obj (c : Nat) (ns : List Str) (ds : List D)

structure Tb where
  P : Program
  w : World
  K : PySem.W.Frag
  cls : Nat → Addr

/-- the entries of a dict with tuple keys: key, the key's address, value -/
abbrev NE := NestedKey × Addr × V
def NEs : List NE → List (NestedKey × Addr × Value) → Prop := Paired fun p q => p.1 = q.1 ∧ p.2.1 = q.2.1 ∧ RelV p.2.2 q.2.2
/-- a dict with tuple keys as a tracked object -/
def ND (T : Tb) (a : Addr) (es : List NE) : HO := .ext fun h => es.length ≤ sizeLine ∧ (a == sysModules) = false ∧ (∀ e ∈ es, e.1.depth ≤ 8) ∧ ∃ xs, NEs es xs ∧
  ∃ o en ep, h.get? a = some o ∧ o.ExactDict ∧ o.data = .dict en ep ∧ en.toList = xs.map (entryOfKey (nestedKind T.P T.w)) ∧ (xs.map (·.1)).Nodup

mutual
def nkey : D → Option NestedKey
  | .int i => some (.num i)
  | .str s => some (.text s)
  | .tup xs => (nkeys xs).map .tup
  | .non => none
  | .bl _ => none
  | .lst _ => none
  | .dic _ _ => none
  | .dik _ _ => none
  | .obj _ _ _ => none
def nkeys : List D → Option (List NestedKey)
  | [] => some []
  | d :: ds => match nkey d, nkeys ds with
    | some k, some ks => some (k :: ks)
    | _, _ => none
end

mutual
def Is (T : Tb) (H : Hp) (v : V) : D → Prop
  | .non => v = .non
  | .bl b => v = .bl b
  | .int i => v = .int i
  | .str s => v = .str s
  | .tup xs => ∃ a vs, v = .ref a ∧ SqT T.K H a vs ∧ IsL T H vs xs
  | .lst xs => ∃ a vs, v = .ref a ∧ SqL T.K H a vs ∧ IsL T H vs xs
  | .dic ks ds => ∃ a es, v = .ref a ∧ H a = some (ND T a es) ∧ es.map (fun e => some e.1) = ks.map nkey ∧ IsL T H (es.map fun e => .ref e.2.1) ks ∧ IsL T H (es.map fun e => e.2.2) ds
  | .dik ks ds => ∃ a kvs, v = .ref a ∧ H a = some (.dK kvs) ∧ kvs.map (·.1) = ks ∧ IsL T H (kvs.map (·.2)) ds
  | .obj c ns ds => ∃ a dx gs, v = .ref a ∧ H a = some (.ins (T.cls c) dx gs) ∧ gs.map (·.1) = ns ∧ IsL T H (gs.map (·.2)) ds
def IsL (T : Tb) (H : Hp) (vs : List V) : List D → Prop
  | [] => vs = []
  | d :: ds => ∃ v r, vs = v :: r ∧ Is T H v d ∧ IsL T H r ds
end

theorem sqL_mono {K : PySem.W.Frag} {H H' : Hp} {a : Addr} {xs : List V} (e : Same H H') (h : SqL K H a xs) : SqL K H' a xs := e.seq h
theorem sqT_mono {K : PySem.W.Frag} {H H' : Hp} {a : Addr} {xs : List V} (e : Same H H') (h : SqT K H a xs) : SqT K H' a xs := by
  rcases h with (h | ⟨o, h⟩) | h
  · exact .inl (.inl (e _ _ h))
  · exact .inl (.inr ⟨o, e _ _ h⟩)
  · exact .inr h

mutual
theorem Is.mono {T : Tb} {H H' : Hp} (e : Same H H') : ∀ (d : D) {v : V}, Is T H v d → Is T H' v d
  | .non, v, h => by simpa only [Is] using h
  | .bl b, v, h => by simpa only [Is] using h
  | .int i, v, h => by simpa only [Is] using h
  | .str s, v, h => by simpa only [Is] using h
  | .tup xs, v, h => by
    simp only [Is] at h ⊢
    obtain ⟨a, vs, e1, h1, h2⟩ := h
    exact ⟨a, vs, e1, sqT_mono e h1, IsL.mono e xs h2⟩
  | .lst xs, v, h => by
    simp only [Is] at h ⊢
    obtain ⟨a, vs, e1, h1, h2⟩ := h
    exact ⟨a, vs, e1, sqL_mono e h1, IsL.mono e xs h2⟩
  | .dic ks ds, v, h => by
    simp only [Is] at h ⊢
    obtain ⟨a, es, e1, h1, h2, h3, h4⟩ := h
    exact ⟨a, es, e1, e _ _ h1, h2, IsL.mono e ks h3, IsL.mono e ds h4⟩
  | .dik ks ds, v, h => by
    simp only [Is] at h ⊢
    obtain ⟨a, es, e1, h1, h2, h4⟩ := h
    exact ⟨a, es, e1, e _ _ h1, h2, IsL.mono e ds h4⟩
  | .obj c ns ds, v, h => by
    simp only [Is] at h ⊢
    obtain ⟨a, dx, gs, e1, h1, h2, h3⟩ := h
    exact ⟨a, dx, gs, e1, e _ _ h1, h2, IsL.mono e ds h3⟩
theorem IsL.mono {T : Tb} {H H' : Hp} (e : Same H H') : ∀ (ds : List D) {vs : List V}, IsL T H vs ds → IsL T H' vs ds
  | [], vs, h => by simpa only [IsL] using h
  | d :: ds, vs, h => by
    simp only [IsL] at h ⊢
    obtain ⟨v, r, e1, h1, h2⟩ := h
    exact ⟨v, r, e1, Is.mono e d h1, IsL.mono e ds h2⟩
end

theorem IsL.nil {T : Tb} {H : Hp} : IsL T H [] [] := by simp only [IsL]
theorem IsL.cons {T : Tb} {H : Hp} {v : V} {vs : List V} {d : D} {ds : List D} (h : Is T H v d) (r : IsL T H vs ds) : IsL T H (v :: vs) (d :: ds) := by
  simp only [IsL]; exact ⟨v, vs, rfl, h, r⟩
theorem IsL.cons_inv {T : Tb} {H : Hp} {vs : List V} {d : D} {ds : List D} (h : IsL T H vs (d :: ds)) : ∃ v r, vs = v :: r ∧ Is T H v d ∧ IsL T H r ds := by simpa only [IsL] using h
theorem IsL.nil_inv {T : Tb} {H : Hp} {vs : List V} (h : IsL T H vs []) : vs = [] := by simpa only [IsL] using h
theorem IsL.length {T : Tb} {H : Hp} : ∀ {ds : List D} {vs : List V}, IsL T H vs ds → vs.length = ds.length
  | [], vs, h => by rw [h.nil_inv]; rfl
  | d :: ds, vs, h => by
    obtain ⟨v, r, rfl, _, h2⟩ := h.cons_inv
    simp [h2.length]
theorem IsL.get {T : Tb} {H : Hp} : ∀ {ds : List D} {vs : List V} {i : Nat} {d : D}, IsL T H vs ds → ds[i]? = some d → ∃ v, vs[i]? = some v ∧ Is T H v d
  | [], vs, i, d, h, e => by simp at e
  | x :: ds, vs, 0, d, h, e => by
    obtain ⟨v, r, rfl, h1, _⟩ := h.cons_inv
    simp at e; subst e
    exact ⟨v, rfl, h1⟩
  | x :: ds, vs, i + 1, d, h, e => by
    obtain ⟨v, r, rfl, _, h2⟩ := h.cons_inv
    obtain ⟨u, h3, h4⟩ := h2.get (i := i) (d := d) (by simpa using e)
    exact ⟨u, by simpa using h3, h4⟩
theorem IsL.getV {T : Tb} {H : Hp} : ∀ {ds : List D} {vs : List V} {i : Nat} {v : V}, IsL T H vs ds → vs[i]? = some v → ∃ d, ds[i]? = some d ∧ Is T H v d
  | [], vs, i, d, h, e => by rw [h.nil_inv] at e; simp at e
  | x :: ds, vs, 0, d, h, e => by
    obtain ⟨v, r, rfl, h1, _⟩ := h.cons_inv
    simp at e; subst e
    exact ⟨x, rfl, h1⟩
  | x :: ds, vs, i + 1, d, h, e => by
    obtain ⟨v, r, rfl, _, h2⟩ := h.cons_inv
    obtain ⟨u, h3, h4⟩ := h2.getV (i := i) (v := d) (by simpa using e)
    exact ⟨u, by simpa using h3, h4⟩
theorem IsL.append {T : Tb} {H : Hp} : ∀ {ds es : List D} {vs us : List V}, IsL T H vs ds → IsL T H us es → IsL T H (vs ++ us) (ds ++ es)
  | [], es, vs, us, h, g => by rw [h.nil_inv]; exact g
  | x :: ds, es, vs, us, h, g => by
    obtain ⟨v, r, rfl, h1, h2⟩ := h.cons_inv
    exact IsL.cons h1 (h2.append g)
theorem IsL.snoc {T : Tb} {H : Hp} {ds : List D} {vs : List V} {v : V} {d : D} (h : IsL T H vs ds) (g : Is T H v d) : IsL T H (vs ++ [v]) (ds ++ [d]) := h.append (IsL.cons g IsL.nil)
theorem IsL.take {T : Tb} {H : Hp} : ∀ {ds : List D} {vs : List V} (n : Nat), IsL T H vs ds → IsL T H (vs.take n) (ds.take n)
  | ds, vs, 0, h => by simp; exact IsL.nil
  | [], vs, n + 1, h => by rw [h.nil_inv]; exact IsL.nil
  | x :: ds, vs, n + 1, h => by
    obtain ⟨v, r, rfl, h1, h2⟩ := h.cons_inv
    exact IsL.cons h1 (h2.take n)
theorem IsL.drop {T : Tb} {H : Hp} : ∀ {ds : List D} {vs : List V} (n : Nat), IsL T H vs ds → IsL T H (vs.drop n) (ds.drop n)
  | ds, vs, 0, h => h
  | [], vs, n + 1, h => by rw [h.nil_inv]; exact IsL.nil
  | x :: ds, vs, n + 1, h => by
    obtain ⟨v, r, rfl, h1, h2⟩ := h.cons_inv
    exact h2.drop n
theorem IsL.set {T : Tb} {H : Hp} {v : V} {d : D} (g : Is T H v d) : ∀ {ds : List D} {vs : List V} (i : Nat), IsL T H vs ds → IsL T H (vs.set i v) (ds.set i d)
  | [], vs, i, h => by rw [h.nil_inv]; exact IsL.nil
  | x :: ds, vs, 0, h => by
    obtain ⟨v', r, rfl, h1, h2⟩ := h.cons_inv
    exact IsL.cons g h2
  | x :: ds, vs, i + 1, h => by
    obtain ⟨v', r, rfl, h1, h2⟩ := h.cons_inv
    exact IsL.cons h1 (h2.set g i)

/-! ### growth of the read heap F and the heap H -/
structure Grow (F H F' H' : Hp) : Prop where
  ff : Same F F'
  hh : Same H H'
  fh : Same F' H'
  nw : ∀ a, F' a ≠ none → F a ≠ none ∨ H a = none
theorem Grow.refl {F H : Hp} (h : Same F H) : Grow F H F H := ⟨Same.refl F, Same.refl H, h, fun a x => .inl x⟩
theorem Grow.trans {F H F1 H1 F2 H2 : Hp} (a : Grow F H F1 H1) (b : Grow F1 H1 F2 H2) : Grow F H F2 H2 :=
  ⟨a.ff.trans b.ff, a.hh.trans b.hh, b.fh, fun x h => by
    rcases b.nw x h with h | h
    · exact a.nw x h
    · exact .inr (a.hh.free h)⟩
theorem same_upd {H : Hp} {p : Addr} {o : HO} (h : H p = none) : Same H (upd H p o) := fun a u e => by
  rw [upd_ne (ne_of_none e h)]; exact e
theorem same_both {F H : Hp} {p : Addr} {o : HO} (e : Same F H) : Same (upd F p o) (upd H p o) := fun a u h => by
  by_cases q : a = p
  · subst q; rw [upd_same] at h ⊢; exact h
  · rw [upd_ne q] at h ⊢; exact e a u h
/-- a new object, read from now on -/
theorem Grow.new {F H : Hp} (e : Same F H) {p : Addr} {o : HO} (hp : H p = none) : Grow F H (upd F p o) (upd H p o) :=
  ⟨same_upd (e.free hp), same_upd hp, same_both e, fun a x => by
    by_cases q : a = p
    · subst q; exact .inr hp
    · rw [upd_ne q] at x; exact .inl x⟩
/-- a new object, not read -/
theorem Grow.side {F H : Hp} (e : Same F H) {p : Addr} {o : HO} (hp : H p = none) : Grow F H F (upd H p o) :=
  ⟨Same.refl F, same_upd hp, e.trans (same_upd hp), fun a x => .inl x⟩
theorem Grow.own {F H F' H' : Hp} (g : Grow F H F' H') {a : Addr} (h1 : F a = none) (h2 : H a ≠ none) : F' a = none := by
  cases q : F' a with
  | none => rfl
  | some o =>
    rcases g.nw a (by rw [q]; simp) with z | z
    · exact absurd h1 z
    · exact absurd z h2

/-! ### environments -/
/-- how a slot holds its value: read by all; an own thing; the object that __init__ makes -/
inductive Fl where
  | fz | ow | me
  deriving DecidableEq
abbrev DEnv := List (Option (D × Fl))
/-- a fresh list, dict or object of the def's own, not read by others: v stands at an address of its own; its content is read in F -/
def OwnC (T : Tb) (F H : Hp) (v : V) : D → Prop
  | .lst xs => ∃ a vs, v = .ref a ∧ F a = none ∧ H a = some (.lst vs) ∧ IsL T F vs xs
  | .dic ks ds => ∃ a es, v = .ref a ∧ F a = none ∧ H a = some (ND T a es) ∧ es.map (fun e => some e.1) = ks.map nkey ∧ IsL T F (es.map fun e => .ref e.2.1) ks ∧ IsL T F (es.map fun e => e.2.2) ds
  | .dik ks ds => ∃ a kvs, v = .ref a ∧ F a = none ∧ H a = some (.dK kvs) ∧ kvs.map (·.1) = ks ∧ IsL T F (kvs.map (·.2)) ds
  | .obj c ns ds => ∃ a dx gs, v = .ref a ∧ F a = none ∧ H a = some (.ins (T.cls c) dx gs) ∧ gs.map (·.1) = ns ∧ IsL T F (gs.map (·.2)) ds
  | _ => False
theorem OwnC.at {T : Tb} {F H : Hp} {v : V} {d : D} (h : OwnC T F H v d) : ∃ a o, v = .ref a ∧ F a = none ∧ H a = some o := by
  cases d with
  | lst xs => obtain ⟨a, vs, e, h1, h2, _⟩ := h; exact ⟨a, _, e, h1, h2⟩
  | dic ks ds => obtain ⟨a, vs, e, h1, h2, _⟩ := h; exact ⟨a, _, e, h1, h2⟩
  | dik ks ds => obtain ⟨a, vs, e, h1, h2, _⟩ := h; exact ⟨a, _, e, h1, h2⟩
  | obj c ns ds => obtain ⟨a, dx, vs, e, h1, h2, _⟩ := h; exact ⟨a, _, e, h1, h2⟩
  | non => exact h.elim
  | bl b => exact h.elim
  | int b => exact h.elim
  | str b => exact h.elim
  | tup b => exact h.elim
theorem OwnC.mono {T : Tb} {F H F' H' : Hp} (ef : Same F F') {v : V} {d : D} (h : OwnC T F H v d) (hn : ∀ a, v = .ref a → F' a = none) (hh : ∀ a o, v = .ref a → H a = some o → H' a = some o) : OwnC T F' H' v d := by
  cases d with
  | lst xs => obtain ⟨a, vs, e, h1, h2, h3⟩ := h; exact ⟨a, _, e, hn a e, hh a _ e h2, h3.mono ef⟩
  | dic ks ds => obtain ⟨a, vs, e, h1, h2, h3, h4, h5⟩ := h; exact ⟨a, _, e, hn a e, hh a _ e h2, h3, h4.mono ef, h5.mono ef⟩
  | dik ks ds => obtain ⟨a, vs, e, h1, h2, h3, h4⟩ := h; exact ⟨a, _, e, hn a e, hh a _ e h2, h3, h4.mono ef⟩
  | obj c ns ds => obtain ⟨a, dx, vs, e, h1, h2, h3, h4⟩ := h; exact ⟨a, _, _, e, hn a e, hh a _ e h2, h3, h4.mono ef⟩
  | non => exact h.elim
  | bl b => exact h.elim
  | int b => exact h.elim
  | str b => exact h.elim
  | tup b => exact h.elim
theorem OwnC.grow {T : Tb} {F H F' H' : Hp} (g : Grow F H F' H') {v : V} {d : D} (h : OwnC T F H v d) : OwnC T F' H' v d := by
  obtain ⟨a, o, e, h1, h2⟩ := h.at
  refine h.mono g.ff (fun b eb => ?_) (fun b o' eb hb => g.hh b o' hb)
  rw [e] at eb; cases eb
  exact g.own h1 (by rw [h2]; simp)
/-- frozen: from now on it is read -/
theorem OwnC.is {T : Tb} {F H : Hp} {v : V} {d : D} (h : OwnC T F H v d) (e : Same F H) {F' : Hp} (ef : Same F F') (ha : ∀ a o, v = .ref a → H a = some o → F' a = some o) : Is T F' v d := by
  cases d with
  | lst xs => obtain ⟨a, vs, ev, h1, h2, h3⟩ := h; simp only [Is]; exact ⟨a, vs, ev, SqL.of (ha a _ ev h2), h3.mono ef⟩
  | dic ks ds => obtain ⟨a, vs, ev, h1, h2, h3, h4, h5⟩ := h; simp only [Is]; exact ⟨a, _, ev, ha a _ ev h2, h3, h4.mono ef, h5.mono ef⟩
  | dik ks ds => obtain ⟨a, vs, ev, h1, h2, h3, h4⟩ := h; simp only [Is]; exact ⟨a, _, ev, ha a _ ev h2, h3, h4.mono ef⟩
  | obj c ns ds => obtain ⟨a, dx, vs, ev, h1, h2, h3, h4⟩ := h; simp only [Is]; exact ⟨a, _, _, ev, ha a _ ev h2, h3, h4.mono ef⟩
  | non => exact h.elim
  | bl b => exact h.elim
  | int b => exact h.elim
  | str b => exact h.elim
  | tup b => exact h.elim

/-- what stands at the entry (less what is handed over as one's own); me: the object that is made -/
structure Base where
  F : Hp
  H : Hp
  me : Addr := 0
structure Rel (T : Tb) (B : Base) (F : Hp) (σ : L2.St) (H : Hp) (env : DEnv) : Prop where
  bf : Same B.F F
  bh : Same B.H H
  fh : Same F H
  nw : ∀ a, F a ≠ none → B.F a ≠ none ∨ B.H a = none
  len : σ.length = env.length
  sl : ∀ (i : Nat) (d : D) (o : Fl), env[i]? = some (some (d, o)) → ∃ v, σ[i]? = some (some v) ∧ (o = .fz → Is T F v d) ∧ (o ≠ .fz → OwnC T F H v d ∧ ∀ a, v = .ref a → B.H a = none) ∧ (o = .me → v = .ref B.me)
  dj : ∀ (i j : Nat) (d e : D) (o o' : Fl) (a : Addr), i ≠ j → o ≠ .fz → o' ≠ .fz → env[i]? = some (some (d, o)) → env[j]? = some (some (e, o')) → σ[i]? = some (some (.ref a)) → σ[j]? = some (some (.ref a)) → False
section
variable {T : Tb} {B : Base} {F F' H H' : Hp} {σ : L2.St} {env : DEnv}
theorem Rel.grow (r : Rel T B F σ H env) (g : Grow F H F' H') : Rel T B F' σ H' env where
  bf := r.bf.trans g.ff
  bh := r.bh.trans g.hh
  fh := g.fh
  nw := fun a x => by
    rcases g.nw a x with x | x
    · exact r.nw a x
    · exact .inr (r.bh.free x)
  len := r.len
  sl := fun i d o e => by
    obtain ⟨v, h1, h2, h3, h4⟩ := r.sl i d o e
    exact ⟨v, h1, fun z => (h2 z).mono g.ff, fun z => ⟨(h3 z).1.grow g, (h3 z).2⟩, h4⟩
  dj := r.dj
theorem get_set {α : Type} {l : List α} {i j : Nat} {x y : α} (h : (l.set i x)[j]? = some y) : (j = i ∧ y = x ∧ i < l.length) ∨ (j ≠ i ∧ l[j]? = some y) := by
  by_cases e : j = i
  · subst e
    by_cases hl : j < l.length
    · rw [List.getElem?_set_self hl] at h
      exact .inl ⟨rfl, (Option.some.inj h).symm, hl⟩
    · rw [List.getElem?_eq_none (by rw [List.length_set]; omega)] at h; cases h
  · rw [List.getElem?_set_ne (Ne.symm e)] at h
    exact .inr ⟨e, h⟩
/-- a slot takes a value that is read, or is forgotten -/
theorem Rel.put (r : Rel T B F σ H env) {i : Nat} {y : Option V} {z : Option (D × Fl)} (h : ∀ d o, z = some (d, o) → o = .fz ∧ ∃ v, y = some v ∧ Is T F v d) : Rel T B F (σ.set i y) H (env.set i z) where
  bf := r.bf
  bh := r.bh
  fh := r.fh
  nw := r.nw
  len := by simp [r.len]
  sl := fun j e o q => by
    rcases get_set q with ⟨rfl, ez, hl⟩ | ⟨ne, q⟩
    · obtain ⟨rfl, v, rfl, iv⟩ := h e o ez.symm
      exact ⟨v, by rw [List.getElem?_set_self (by rw [r.len]; exact hl)], fun _ => iv, fun z => absurd rfl z, fun z => by cases z⟩
    · rw [List.getElem?_set_ne (Ne.symm ne)]
      exact r.sl j e o q
  dj := fun a b d' e' o o' c ne ho ho' h1 h2 h3 h4 => by
    rcases get_set h1 with ⟨_, ez, _⟩ | ⟨na, g1⟩
    · exact ho (h d' o ez.symm).1
    rcases get_set h2 with ⟨_, ez, _⟩ | ⟨nb, g2⟩
    · exact ho' (h e' o' ez.symm).1
    rw [List.getElem?_set_ne (Ne.symm na)] at h3
    rw [List.getElem?_set_ne (Ne.symm nb)] at h4
    exact r.dj a b d' e' o o' c ne ho ho' g1 g2 h3 h4
theorem Rel.set (r : Rel T B F σ H env) {i : Nat} {v : V} {d : D} (h : Is T F v d) : Rel T B F (σ.set i (some v)) H (env.set i (some (d, .fz))) :=
  r.put fun d' o e => by cases e; exact ⟨rfl, v, rfl, h⟩
theorem Rel.forget (r : Rel T B F σ H env) (i : Nat) (x : Option V) : Rel T B F (σ.set i x) H (env.set i none) := r.put fun d' o e => by cases e
/-- the addresses that slots own -/
def Owned (σ : L2.St) (env : DEnv) (a : Addr) : Prop := ∃ (i : Nat) (d : D) (o : Fl), o ≠ .fz ∧ env[i]? = some (some (d, o)) ∧ σ[i]? = some (some (V.ref a))
/-- a slot takes a fresh thing of its own -/
theorem Rel.setO (r : Rel T B F σ H env) {i : Nat} {a : Addr} {d : D} (h : OwnC T F H (.ref a) d) (hb : B.H a = none) (hn : ¬ Owned σ env a) : Rel T B F (σ.set i (some (.ref a))) H (env.set i (some (d, .ow))) where
  bf := r.bf
  bh := r.bh
  fh := r.fh
  nw := r.nw
  len := by simp [r.len]
  sl := fun j e o q => by
    rcases get_set q with ⟨rfl, z, hl⟩ | ⟨ne, q⟩
    · cases z
      exact ⟨.ref a, by rw [List.getElem?_set_self (by rw [r.len]; exact hl)], (fun z => by cases z), (fun _ => ⟨h, fun b e => by cases e; exact hb⟩), fun z => by cases z⟩
    · rw [List.getElem?_set_ne (Ne.symm ne)]
      exact r.sl j e o q
  dj := fun x y d' e' o o' c ne ho ho' h1 h2 h3 h4 => by
    rcases get_set h1 with ⟨ex, z, hl⟩ | ⟨na, g1⟩
    · subst ex
      rcases get_set h2 with ⟨ey, _, _⟩ | ⟨nb, g2⟩
      · exact ne ey.symm
      · rw [List.getElem?_set_self (by rw [r.len]; exact hl)] at h3
        rw [List.getElem?_set_ne (Ne.symm nb)] at h4
        cases h3
        exact hn ⟨y, e', o', ho', g2, h4⟩
    · rcases get_set h2 with ⟨ey, z, hl⟩ | ⟨nb, g2⟩
      · subst ey
        rw [List.getElem?_set_ne (Ne.symm na)] at h3
        rw [List.getElem?_set_self (by rw [r.len]; exact hl)] at h4
        cases h4
        exact hn ⟨x, d', o, ho, g1, h3⟩
      · rw [List.getElem?_set_ne (Ne.symm na)] at h3
        rw [List.getElem?_set_ne (Ne.symm nb)] at h4
        exact r.dj x y d' e' o o' c ne ho ho' g1 g2 h3 h4
/-- an own thing is read from now on -/
theorem Rel.freeze (r : Rel T B F σ H env) {i : Nat} {d : D} {o : Fl} (ho : o ≠ .fz) (h : env[i]? = some (some (d, o))) : ∃ F', Same F F' ∧ Rel T B F' σ H (env.set i (some (d, .fz))) := by
  obtain ⟨v, h1, _, h3, _⟩ := r.sl i d o h
  obtain ⟨hc, hb⟩ := h3 ho
  obtain ⟨a, u, e, hf, hh⟩ := hc.at
  subst e
  have hi : i < env.length := (List.getElem?_eq_some_iff.mp h).1
  refine ⟨upd F a u, same_upd hf, ⟨r.bf.trans (same_upd hf), r.bh, fun b w q => ?_, fun b x => ?_, by simp [r.len], fun j d' o' q => ?_, fun x y d' e' o1 o2 c ne n1 n2 g1 g2 g3 g4 => ?_⟩⟩
  · by_cases z : b = a
    · subst z; rw [upd_same] at q; cases q; exact hh
    · rw [upd_ne z] at q; exact r.fh b w q
  · by_cases z : b = a
    · subst z; exact .inr (hb b rfl)
    · rw [upd_ne z] at x; exact r.nw b x
  · rcases get_set q with ⟨rfl, z, hl⟩ | ⟨ne, q⟩
    · cases z
      refine ⟨.ref a, h1, (fun _ => hc.is r.fh (same_upd hf) (fun b w eb hu => ?_)), (fun z => absurd rfl z), fun z => by cases z⟩
      cases eb
      rw [upd_same, ← hu, hh]
    · obtain ⟨v', k1, k2, k3, k4⟩ := r.sl j d' o' q
      refine ⟨v', k1, fun z => (k2 z).mono (same_upd hf), fun z => ⟨(k3 z).1.mono (same_upd hf) (fun b eb => ?_) (fun b u _ hu => hu), (k3 z).2⟩, k4⟩
      subst eb
      obtain ⟨b', o'', eb', hf', _⟩ := (k3 z).1.at
      cases eb'
      have nb : b ≠ a := fun w => by
        subst w
        exact r.dj j i d' d o' o b ne z ho q h k1 h1
      rw [upd_ne nb]; exact hf'
  · rcases get_set g1 with ⟨_, z, _⟩ | ⟨na, g1'⟩
    · cases z; exact n1 rfl
    rcases get_set g2 with ⟨_, z, _⟩ | ⟨nb, g2'⟩
    · cases z; exact n2 rfl
    exact r.dj x y d' e' o1 o2 c ne n1 n2 g1' g2' g3 g4
/-- an own thing is changed -/
theorem Rel.change (r : Rel T B F σ H env) {i : Nat} {d d' : D} {a : Addr} {u : HO} {o : Fl} (ho : o ≠ .fz) (h : env[i]? = some (some (d, o))) (hs : σ[i]? = some (some (.ref a))) (hn : OwnC T F (upd H a u) (.ref a) d') :
    Rel T B F σ (upd H a u) (env.set i (some (d', o))) := by
  obtain ⟨v, h1, _, h3, h4⟩ := r.sl i d o h
  obtain ⟨hc, hb⟩ := h3 ho
  rw [hs] at h1; cases h1
  obtain ⟨a', o', e, hf, hh⟩ := hc.at
  cases e
  have hi : i < env.length := (List.getElem?_eq_some_iff.mp h).1
  have same : ∀ {G : Hp}, G a = none → Same G H → Same G (upd H a u) := fun {G} g e b w q => by
    rw [upd_ne (ne_of_none q g)]; exact e b w q
  refine ⟨r.bf, same (hb a rfl) r.bh, same hf r.fh, r.nw, by simp [r.len], fun j e o2 q => ?_, fun x y d1 e1 o1 o2 c ne n1 n2 g1 g2 g3 g4 => ?_⟩
  · rcases get_set q with ⟨rfl, z, hl⟩ | ⟨ne, q⟩
    · cases z
      exact ⟨.ref a, hs, (fun z => absurd z ho), (fun _ => ⟨hn, hb⟩), h4⟩
    · obtain ⟨v', k1, k2, k3, k4⟩ := r.sl j e o2 q
      refine ⟨v', k1, k2, fun z => ⟨(k3 z).1.mono (Same.refl F) (fun b eb => ?_) (fun b w eb hu => ?_), (k3 z).2⟩, k4⟩
      · obtain ⟨b', o'', eb', hf', _⟩ := (k3 z).1.at
        rw [eb] at eb'; cases eb'
        exact hf'
      · subst eb
        have nb : b ≠ a := fun w => by
          subst w
          exact r.dj j i e d o2 o b ne z ho q h k1 hs
        rw [upd_ne nb]; exact hu
  · have fx : ∀ {x : Nat} {d1 : D} {o1 : Fl}, (env.set i (some (d', o)))[x]? = some (some (d1, o1)) → ∃ d2, env[x]? = some (some (d2, o1)) := fun {x d1 o1} g => by
      rcases get_set g with ⟨rfl, z, _⟩ | ⟨_, g⟩
      · cases z; exact ⟨d, h⟩
      · exact ⟨d1, g⟩
    obtain ⟨d2, g1'⟩ := fx g1
    obtain ⟨e2, g2'⟩ := fx g2
    exact r.dj x y d2 e2 o1 o2 c ne n1 n2 g1' g2' g3 g4
end
end Pd

/-! Pd, expressions: readings by denotations, and the rules that need no further module. -/
namespace Pd
open PySem PySem.Spec PyProof.Rows L2

def tbX (X : Cx) (cls : Nat → Addr) : Tb := ⟨X.prog, X.w, X.K, cls⟩
abbrev DP := DEnv → Option D
abbrev DPs := DEnv → Option (List D)
abbrev DT := DEnv → Option Bool
/-- read, or an own thing of content that is read -/
def Pk (T : Tb) (F H : Hp) (v : V) (d : D) : Prop := Is T F v d ∨ OwnC T F H v d
def tD (T : Tb) (B : Base) (f : DP) : TE := fun σ H Q => ∃ F env d, Rel T B F σ H env ∧ f env = some d ∧ ∀ F' H' v, Grow F H F' H' → Is T F' v d → Q v H'
def tP (T : Tb) (B : Base) (f : DP) : TE := fun σ H Q => ∃ F env d, Rel T B F σ H env ∧ f env = some d ∧ ∀ F' H' v, Grow F H F' H' → Pk T F' H' v d → Q v H'
/-- a new thing, not yet read -/
def tO (T : Tb) (B : Base) (f : DP) : TE := fun σ H Q => ∃ F env d, Rel T B F σ H env ∧ f env = some d ∧ ∀ F' H' a, Grow F H F' H' → OwnC T F' H' (.ref a) d → H a = none → Q (.ref a) H'
def tAs (T : Tb) (B : Base) (f : DPs) : TA := fun σ H Q => ∃ F env ds, Rel T B F σ H env ∧ f env = some ds ∧ ∀ F' H' vs, Grow F H F' H' → IsL T F' vs ds → Q vs H'
def tTt (T : Tb) (B : Base) (f : DT) : TT := fun σ H Q => ∃ F env b, Rel T B F σ H env ∧ f env = some b ∧ ∀ F' H', Grow F H F' H' → Q b H'

theorem weakE {X : Cx} {e : Expr} {t t' : TE} (p : PE X e t) (h : ∀ σ H Q, t' σ H Q → t σ H Q) : PE X e t' := ⟨fun pins s σ H Q I q => p.run pins s σ H Q I (h σ H Q q)⟩
theorem weakT {X : Cx} {e : Expr} {t t' : TT} (p : PT X e t) (h : ∀ σ H Q, t' σ H Q → t σ H Q) : PT X e t' := ⟨fun pins s σ H Q I q => p.run pins s σ H Q I (h σ H Q q)⟩
theorem weakW {X : Cx} {e : Expr} {t t' : TT} (p : PW X e t) (h : ∀ σ H Q, t' σ H Q → t σ H Q) : PW X e t' := ⟨fun wh pins s σ H Q I q => p.run wh pins s σ H Q I (h σ H Q q)⟩
theorem weakA {X : Cx} {es : List Expr} {t t' : TA} (p : PA X es t) (h : ∀ σ H Q, t' σ H Q → t σ H Q) : PA X es t' := ⟨fun pos pins s σ H Q I q => p.run pos pins s σ H Q I (h σ H Q q)⟩
theorem weakS {X : Cx} {st : Stmt} {t t' : TS} (p : PS X st t) (h : ∀ D σ H, t' D σ H → t D σ H) : PS X st t' := ⟨fun pins s σ H D I q => p.run pins s σ H D I (h D σ H q)⟩
theorem weakSs {X : Cx} {st : List Stmt} {t t' : TS} (p : PSs X st t) (h : ∀ D σ H, t' D σ H → t D σ H) : PSs X st t' := ⟨fun pins s σ H D I q => p.run pins s σ H D I (h D σ H q)⟩

section
variable {X : Cx} {cls : Nat → Addr} {B : Base} {e a b : Expr} {pos : Pos} {f fa fb : DP}

/-! ### names, constants -/
def dVar (i : Nat) : DP := fun env => match env[i]? with
  | some (some (d, .fz)) => some d
  | _ => none
def dPk (i : Nat) : DP := fun env => match env[i]? with
  | some (some (d, _)) => some d
  | _ => none
theorem dVar_at {i : Nat} {env : DEnv} {d : D} (h : dVar i env = some d) : env[i]? = some (some (d, .fz)) := by
  unfold dVar at h
  split at h
  · rename_i d' e; rw [e]; cases h; rfl
  · cases h
theorem dPk_at {i : Nat} {env : DEnv} {d : D} (h : dPk i env = some d) : ∃ o, env[i]? = some (some (d, o)) := by
  unfold dPk at h
  split at h
  · rename_i d' o e; cases h; exact ⟨o, e⟩
  · cases h
theorem r_var {i : Nat} {x : Str} (h : PE X (.Name x pos) (tVar i)) : PE X (.Name x pos) (tD (tbX X cls) B (dVar i)) := weakE h fun σ H Q ⟨F, env, d, r, e, k⟩ => by
  obtain ⟨v, h1, h2, _⟩ := r.sl i d .fz (dVar_at e)
  exact ⟨v, h1, k F H v (Grow.refl r.fh) (h2 rfl)⟩
theorem r_pk {i : Nat} {x : Str} (h : PE X (.Name x pos) (tVar i)) : PE X (.Name x pos) (tP (tbX X cls) B (dPk i)) := weakE h fun σ H Q ⟨F, env, d, r, e, k⟩ => by
  obtain ⟨o, e⟩ := dPk_at e
  obtain ⟨v, h1, h2, h3, _⟩ := r.sl i d o e
  refine ⟨v, h1, k F H v (Grow.refl r.fh) ?_⟩
  by_cases q : o = .fz
  · exact .inl (h2 q)
  · exact .inr (h3 q).1
theorem r_dp (h : PE X e (tD (tbX X cls) B f)) : PE X e (tP (tbX X cls) B f) := weakE h fun σ H Q ⟨F, env, d, r, e, k⟩ => ⟨F, env, d, r, e, fun F' H' v g i => k F' H' v g (.inl i)⟩
theorem r_od (h : PE X e (tO (tbX X cls) B f)) : PE X e (tD (tbX X cls) B f) := weakE h fun σ H Q ⟨F, env, d, r, e, k⟩ => ⟨F, env, d, r, e, fun F' H' a g o hn => by
  obtain ⟨b, u, eb, hf, hh⟩ := o.at
  cases eb
  have s1 : Same F' (upd F' a u) := same_upd hf
  refine k (upd F' a u) H' (.ref a) ⟨g.ff.trans s1, g.hh, fun b o' q => ?_, fun b x => ?_⟩ (o.is g.fh s1 fun b o' eb hb => ?_)
  · by_cases z : b = a
    · subst z; rw [upd_same] at q; cases q; exact hh
    · rw [upd_ne z] at q; exact g.fh b o' q
  · by_cases z : b = a
    · subst z; exact .inr hn
    · rw [upd_ne z] at x; exact g.nw b x
  · cases eb
    rw [upd_same, ← hb, hh]⟩
def dC (d : D) : DP := fun _ => some d
theorem r_c {v : V} {d : D} (h : PE X e (tC v)) (hd : ∀ F, Is (tbX X cls) F v d) : PE X e (tD (tbX X cls) B (dC d)) := weakE h fun σ H Q ⟨F, env, d', r, e, k⟩ => by
  cases e
  exact k F H v (Grow.refl r.fh) (hd F)
theorem r_int {i : Int} {j} : PE X (.Constant (.int i) j pos) (tD (tbX X cls) B (dC (.int i))) := r_c pe_int fun F => by simp only [Is]
theorem r_str {i : Str} {j} : PE X (.Constant (.str i) j pos) (tD (tbX X cls) B (dC (.str i))) := r_c pe_str fun F => by simp only [Is]
theorem r_bl {i : Bool} {j} : PE X (.Constant (.bool i) j pos) (tD (tbX X cls) B (dC (.bl i))) := r_c pe_bl fun F => by simp only [Is]
theorem r_non {j} : PE X (.Constant .none j pos) (tD (tbX X cls) B (dC .non)) := r_c pe_non fun F => by simp only [Is]

/-! ### two operands -/
def dBin (g : D → D → Option D) (fa fb : DP) : DP := fun env => match fa env with
  | some x => match fb env with
    | some y => g x y
    | none => none
  | none => none
/-- what an operator gives on data -/
def OpS (T : Tb) (r : R2) (g : D → D → Option D) : Prop := ∀ (F H : Hp) (x y : V) (dx dy d : D) (Q : VK), Same F H → Is T F x dx → Is T F y dy → g dx dy = some d → (∀ F' H' v, Grow F H F' H' → Is T F' v d → Q v H') → r x y H Q
theorem OpS.or {T : Tb} {r r' : R2} {g g' : D → D → Option D} (h : OpS T r g) (h' : OpS T r' g') : OpS T (fun x y H Q => r x y H Q ∨ r' x y H Q) (fun x y => (g x y).or (g' x y)) := fun F H x y dx dy d Q s ix iy e k => by
  dsimp only at e
  cases q : g dx dy with
  | some z => rw [q] at e; exact .inl (h F H x y dx dy d Q s ix iy (by rw [q]; exact e) k)
  | none => rw [q] at e; exact .inr (h' F H x y dx dy d Q s ix iy e k)
theorem dBin_some {g : D → D → Option D} {env : DEnv} {d : D} (h : dBin g fa fb env = some d) : ∃ x y, fa env = some x ∧ fb env = some y ∧ g x y = some d := by
  unfold dBin at h
  split at h
  · rename_i x ex
    split at h
    · rename_i y ey
      exact ⟨x, y, ex, ey, h⟩
    · cases h
  · cases h
theorem tOp_of {T : Tb} {r : R2} {g : D → D → Option D} (hg : OpS T r g) {σ : L2.St} {H : Hp} {Q : VK} (h : tD T B (dBin g fa fb) σ H Q) : tOp r (tD T B fa) (tD T B fb) σ H Q := by
  obtain ⟨F, env, d, rl, e, k⟩ := h
  obtain ⟨x, y, ex, ey, e⟩ := dBin_some e
  exact ⟨F, env, x, rl, ex, fun F1 H1 v g1 i1 => ⟨F1, env, y, rl.grow g1, ey, fun F2 H2 u g2 i2 =>
    hg F2 H2 v u x y d Q g2.fh (i1.mono g2.ff) i2 e fun F3 H3 w g3 i3 => k F3 H3 w ((g1.trans g2).trans g3) i3⟩⟩
theorem r_bin {op : Operator} {r : R2} {g : D → D → Option D} (ho : OpR X (binaryOp op) r) (hg : OpS (tbX X cls) r g) (ha : PE X a (tD (tbX X cls) B fa)) (hb : PE X b (tD (tbX X cls) B fb)) :
    PE X (.BinOp a op b pos) (tD (tbX X cls) B (dBin g fa fb)) := weakE (pe_op ho ha hb) fun _ _ _ h => tOp_of hg h
theorem r_cmp {op : CmpOp} {r : R2} {g : D → D → Option D} (ho : OpR X (compareOp op) r) (hg : OpS (tbX X cls) r g) (ha : PE X a (tD (tbX X cls) B fa)) (hb : PE X b (tD (tbX X cls) B fb)) (hm : behindInMarks op b = false) :
    PE X (.Compare a [op] [b] pos) (tD (tbX X cls) B (dBin g fa fb)) := weakE (pe_cmpR ho ha hb hm) fun _ _ _ h => tOp_of hg h
def dB (f : DP) : DT := fun env => match f env with
  | some (.bl b) => some b
  | _ => none
theorem dB_some {env : DEnv} {b : Bool} (h : dB f env = some b) : f env = some (.bl b) := by
  unfold dB at h
  split at h
  · rename_i b' e; cases h; exact e
  · cases h
theorem r_tcmp {op : CmpOp} {r : R2} {g : D → D → Option D} (ho : OpR X (compareOp op) r) (hg : OpS (tbX X cls) r g) (ha : PE X a (tD (tbX X cls) B fa)) (hb : PE X b (tD (tbX X cls) B fb)) (hm : behindInMarks op b = false) :
    PT X (.Compare a [op] [b] pos) (tTt (tbX X cls) B (dB (dBin g fa fb))) := weakT (pt_cmpR ho ha hb hm) fun σ H Q ⟨F, env, c, rl, e, k⟩ => by
  refine tOp_of hg ⟨F, env, .bl c, rl, dB_some e, fun F' H' v gr i => ⟨c, by simpa only [Is] using i, k F' H' gr⟩⟩
/-- an expression whose value is True or False, as a test -/
theorem r_tval (h : PE X e (tD (tbX X cls) B f)) (he : ∀ whole, isTrue e X.env whole = (do let v ← whole; standAt e.pos; holding [v] (truthy v)) := by intro _; rfl) :
    PT X e (tTt (tbX X cls) B (dB f)) := weakT (pt_val h he) fun σ H Q ⟨F, env, c, rl, e, k⟩ => ⟨F, env, .bl c, rl, dB_some e, fun F' H' v gr i => ⟨c, by simpa only [Is] using i, k F' H' gr⟩⟩

/-! ### ints -/
def gI (g : Int → Int → Int) : D → D → Option D
  | .int i, .int j => some (.int (g i j))
  | _, _ => none
theorem gI_some {g : Int → Int → Int} {x y d : D} (h : gI g x y = some d) : ∃ i j, x = .int i ∧ y = .int j ∧ d = .int (g i j) := by
  unfold gI at h
  split at h
  · cases h; exact ⟨_, _, rfl, rfl, rfl⟩
  · cases h
def gIc (C : Int → Int → Prop) [∀ i j, Decidable (C i j)] (g : Int → Int → Int) : D → D → Option D
  | .int i, .int j => if C i j then some (.int (g i j)) else none
  | _, _ => none
theorem gIc_some {C : Int → Int → Prop} [∀ i j, Decidable (C i j)] {g : Int → Int → Int} {x y d : D} (h : gIc C g x y = some d) : ∃ i j, x = .int i ∧ y = .int j ∧ C i j ∧ d = .int (g i j) := by
  unfold gIc at h
  split at h
  · split at h
    · cases h; exact ⟨_, _, rfl, rfl, by assumption, rfl⟩
    · cases h
  · cases h
theorem sI {T : Tb} {g : Int → Int → Int} : OpS T (rI0 fun i j => .int (g i j)) (gI g) := fun F H x y dx dy d Q s ix iy e k => by
  obtain ⟨i, j, rfl, rfl, rfl⟩ := gI_some e
  simp only [Is] at ix iy
  exact ⟨i, j, ix, iy, k F H _ (Grow.refl s) (by simp only [Is])⟩
theorem sIc {T : Tb} {C : Int → Int → Prop} [∀ i j, Decidable (C i j)] {g : Int → Int → Int} : OpS T (rI C fun i j => .int (g i j)) (gIc C g) := fun F H x y dx dy d Q s ix iy e k => by
  obtain ⟨i, j, rfl, rfl, c, rfl⟩ := gIc_some e
  simp only [Is] at ix iy
  exact ⟨i, j, ix, iy, c, k F H _ (Grow.refl s) (by simp only [Is])⟩
def gIB (g : Int → Int → Bool) : D → D → Option D
  | .int i, .int j => some (.bl (g i j))
  | _, _ => none
theorem sIB {T : Tb} {g : Int → Int → Bool} : OpS T (rI0 fun i j => .bl (g i j)) (gIB g) := fun F H x y dx dy d Q s ix iy e k => by
  unfold gIB at e
  split at e
  · cases e
    simp only [Is] at ix iy
    exact ⟨_, _, ix, iy, k F H _ (Grow.refl s) (by simp only [Is])⟩
  · cases e

/-! ### scalars: == and != -/
def gEq : D → D → Option Bool
  | .int i, .int j => some (decide (i = j))
  | .str i, .str j => some (decide (i = j))
  | .bl i, .bl j => some (decide (i = j))
  | _, _ => none
theorem gEq_some {x y : D} {b : Bool} {T : Tb} {F : Hp} {vx vy : V} (h : gEq x y = some b) (ix : Is T F vx x) (iy : Is T F vy y) : scal vx vy = true ∧ decide (vx = vy) = b := by
  unfold gEq at h
  split at h <;> try cases h
  all_goals
    simp only [Is] at ix iy
    subst ix iy
    refine ⟨rfl, ?_⟩
    simp
theorem sEq {T : Tb} : OpS T rEq (fun x y => (gEq x y).map .bl) := fun F H x y dx dy d Q s ix iy e k => by
  obtain ⟨b, e1, rfl⟩ := Option.map_eq_some_iff.mp e
  obtain ⟨h1, h2⟩ := gEq_some e1 ix iy
  exact ⟨h1, by rw [h2]; exact k F H _ (Grow.refl s) (by simp only [Is])⟩
theorem sNe {T : Tb} : OpS T rNe (fun x y => (gEq x y).map fun b => .bl (!b)) := fun F H x y dx dy d Q s ix iy e k => by
  obtain ⟨b, e1, rfl⟩ := Option.map_eq_some_iff.mp e
  obtain ⟨h1, h2⟩ := gEq_some e1 ix iy
  exact ⟨h1, by rw [h2]; exact k F H _ (Grow.refl s) (by simp only [Is])⟩

/-! ### and, or, not, the conditional expression -/
def dAnd (f g : DT) : DT := fun env => match f env with
  | some true => g env
  | some false => some false
  | none => none
def dOr (f g : DT) : DT := fun env => match f env with
  | some true => some true
  | some false => g env
  | none => none
def dNot (f : DT) : DT := fun env => (f env).map not
def dIfE (c : DT) (f g : DP) : DP := fun env => match c env with
  | some true => f env
  | some false => g env
  | none => none
variable {c g : DT} {rest : List Expr}
theorem r_tand1 (h : PT X a (tTt (tbX X cls) B c)) : PW X (.BoolOp .And [a] pos) (tTt (tbX X cls) B c) := pw_and1 h
theorem r_tor1 (h : PT X a (tTt (tbX X cls) B c)) : PW X (.BoolOp .Or [a] pos) (tTt (tbX X cls) B c) := pw_or1 h
theorem r_tand (ha : PT X a (tTt (tbX X cls) B c)) (hb : PW X (.BoolOp .And (b :: rest) pos) (tTt (tbX X cls) B g)) : PW X (.BoolOp .And (a :: b :: rest) pos) (tTt (tbX X cls) B (dAnd c g)) := weakW (pw_and ha hb) fun σ H Q ⟨F, env, d, r, e, k⟩ => by
  unfold dAnd at e
  split at e
  · rename_i q
    refine ⟨F, env, true, r, q, fun F1 H1 g1 => ?_⟩
    refine iteT ?_
    exact ⟨F1, env, d, r.grow g1, e, fun F2 H2 g2 => k F2 H2 (g1.trans g2)⟩
  · rename_i q
    cases e
    refine ⟨F, env, false, r, q, fun F1 H1 g1 => ?_⟩
    refine iteF ?_
    exact k F1 H1 g1
  · cases e
theorem r_tor (ha : PT X a (tTt (tbX X cls) B c)) (hb : PW X (.BoolOp .Or (b :: rest) pos) (tTt (tbX X cls) B g)) : PW X (.BoolOp .Or (a :: b :: rest) pos) (tTt (tbX X cls) B (dOr c g)) := weakW (pw_or ha hb) fun σ H Q ⟨F, env, d, r, e, k⟩ => by
  unfold dOr at e
  split at e
  · rename_i q
    cases e
    refine ⟨F, env, true, r, q, fun F1 H1 g1 => ?_⟩
    refine iteT ?_
    exact k F1 H1 g1
  · rename_i q
    refine ⟨F, env, false, r, q, fun F1 H1 g1 => ?_⟩
    refine iteF ?_
    exact ⟨F1, env, d, r.grow g1, e, fun F2 H2 g2 => k F2 H2 (g1.trans g2)⟩
  · cases e
theorem r_tw (h : PW X e (tTt (tbX X cls) B c)) : PT X e (tTt (tbX X cls) B c) := h.pt
theorem r_tnot (ha : PT X a (tTt (tbX X cls) B c)) : PT X (.UnaryOp .Not a pos) (tTt (tbX X cls) B (dNot c)) := weakT (pt_not ha) fun σ H Q ⟨F, env, d, r, e, k⟩ => by
  obtain ⟨b', e1, rfl⟩ := Option.map_eq_some_iff.mp e
  exact ⟨F, env, b', r, e1, fun F1 H1 g1 => k F1 H1 g1⟩
theorem r_ifE {t : Expr} {fc : DT} (hc : PT X t (tTt (tbX X cls) B fc)) (ha : PE X a (tD (tbX X cls) B fa)) (hb : PE X b (tD (tbX X cls) B fb)) : PE X (.IfExp t a b pos) (tD (tbX X cls) B (dIfE fc fa fb)) := weakE (pe_ifExp hc ha hb) fun σ H Q ⟨F, env, d, r, e, k⟩ => by
  unfold dIfE at e
  split at e
  · rename_i q
    refine ⟨F, env, true, r, q, fun F1 H1 g1 => ?_⟩
    refine iteT ?_
    exact ⟨F1, env, d, r.grow g1, e, fun F2 H2 v g2 i => k F2 H2 v (g1.trans g2) i⟩
  · rename_i q
    refine ⟨F, env, false, r, q, fun F1 H1 g1 => ?_⟩
    refine iteF ?_
    exact ⟨F1, env, d, r.grow g1, e, fun F2 H2 v g2 i => k F2 H2 v (g1.trans g2) i⟩
  · cases e
/-- and, or, not as values of True and False -/
def dAndV (f g : DP) : DP := fun env => match f env with
  | some (.bl true) => match g env with
    | some (.bl b) => some (.bl b)
    | _ => none
  | some (.bl false) => some (.bl false)
  | _ => none
def dOrV (f g : DP) : DP := fun env => match f env with
  | some (.bl false) => match g env with
    | some (.bl b) => some (.bl b)
    | _ => none
  | some (.bl true) => some (.bl true)
  | _ => none
theorem r_andV (ha : PE X a (tD (tbX X cls) B fa)) (hb : PE X (.BoolOp .And (b :: rest) pos) (tD (tbX X cls) B fb)) : PE X (.BoolOp .And (a :: b :: rest) pos) (tD (tbX X cls) B (dAndV fa fb)) := weakE (pe_and ha hb) fun σ H Q ⟨F, env, d, r, e, k⟩ => by
  unfold dAndV at e
  split at e
  · rename_i q
    refine ⟨F, env, .bl true, r, q, fun F1 H1 v g1 i => ⟨true, by simpa only [Is] using i, ?_⟩⟩
    refine iteT ?_
    split at e
    · rename_i b' q2
      cases e
      exact ⟨F1, env, .bl b', r.grow g1, q2, fun F2 H2 v g2 i => k F2 H2 v (g1.trans g2) i⟩
    · cases e
  · rename_i q
    cases e
    refine ⟨F, env, .bl false, r, q, fun F1 H1 v g1 i => ⟨false, by simpa only [Is] using i, ?_⟩⟩
    refine iteF ?_
    exact k F1 H1 _ g1 (by simp only [Is])
  · cases e
theorem r_orV (ha : PE X a (tD (tbX X cls) B fa)) (hb : PE X (.BoolOp .Or (b :: rest) pos) (tD (tbX X cls) B fb)) : PE X (.BoolOp .Or (a :: b :: rest) pos) (tD (tbX X cls) B (dOrV fa fb)) := weakE (pe_or ha hb) fun σ H Q ⟨F, env, d, r, e, k⟩ => by
  unfold dOrV at e
  split at e
  · rename_i q
    refine ⟨F, env, .bl false, r, q, fun F1 H1 v g1 i => ⟨false, by simpa only [Is] using i, ?_⟩⟩
    refine iteF ?_
    split at e
    · rename_i b' q2
      cases e
      exact ⟨F1, env, .bl b', r.grow g1, q2, fun F2 H2 v g2 i => k F2 H2 v (g1.trans g2) i⟩
    · cases e
  · rename_i q
    cases e
    refine ⟨F, env, .bl true, r, q, fun F1 H1 v g1 i => ⟨true, by simpa only [Is] using i, ?_⟩⟩
    refine iteT ?_
    exact k F1 H1 _ g1 (by simp only [Is])
  · cases e
theorem r_oneV {op} (ha : PE X a (tD (tbX X cls) B fa)) : PE X (.BoolOp op [a] pos) (tD (tbX X cls) B fa) := pe_one ha
def dNotV (f : DP) : DP := fun env => match f env with
  | some (.bl b) => some (.bl (!b))
  | _ => none
theorem r_notV (ha : PE X a (tD (tbX X cls) B fa)) : PE X (.UnaryOp .Not a pos) (tD (tbX X cls) B (dNotV fa)) := weakE (pe_not ha) fun σ H Q ⟨F, env, d, r, e, k⟩ => by
  unfold dNotV at e
  split at e
  · rename_i b' q
    cases e
    exact ⟨F, env, .bl b', r, q, fun F1 H1 v g1 i => ⟨b', by simpa only [Is] using i, k F1 H1 _ g1 (by simp only [Is])⟩⟩
  · cases e
def dNeg (f : DP) : DP := fun env => match f env with
  | some (.int i) => some (.int (-i))
  | _ => none
theorem r_neg (ha : PE X a (tD (tbX X cls) B fa)) : PE X (.UnaryOp .USub a pos) (tD (tbX X cls) B (dNeg fa)) := weakE (pe_un un_neg ha) fun σ H Q ⟨F, env, d, r, e, k⟩ => by
  unfold dNeg at e
  split at e
  · rename_i i q
    cases e
    exact ⟨F, env, .int i, r, q, fun F1 H1 v g1 iv => ⟨i, by simpa only [Is] using iv, k F1 H1 _ g1 (by simp only [Is])⟩⟩
  · cases e

/-! ### argument lists, displays -/
def dNil : DPs := fun _ => some []
def dCons (f : DP) (r : DPs) : DPs := fun env => match f env with
  | some d => match r env with
    | some ds => some (d :: ds)
    | none => none
  | none => none
theorem dCons_some {r : DPs} {env : DEnv} {ds : List D} (h : dCons f r env = some ds) : ∃ d rs, f env = some d ∧ r env = some rs ∧ ds = d :: rs := by
  unfold dCons at h
  split at h
  · rename_i d e1
    split at h
    · rename_i rs e2
      cases h
      exact ⟨d, rs, e1, e2, rfl⟩
    · cases h
  · cases h
variable {es : List Expr} {fr : DPs}
theorem r_anil : PA X [] (tAs (tbX X cls) B dNil) := weakA pa_nil fun σ H Q ⟨F, env, ds, r, e, k⟩ => by
  cases e
  exact k F H [] (Grow.refl r.fh) IsL.nil
theorem r_acons (ha : PE X a (tD (tbX X cls) B fa)) (hr : PA X es (tAs (tbX X cls) B fr)) (hs : starEach (a :: es) X.env = (false, eval a X.env) :: starEach es X.env := by rfl) : PA X (a :: es) (tAs (tbX X cls) B (dCons fa fr)) :=
  weakA (pa_cons ha hr hs) fun σ H Q ⟨F, env, ds, r, e, k⟩ => by
  obtain ⟨d, rs, e1, e2, rfl⟩ := dCons_some e
  exact ⟨F, env, d, r, e1, fun F1 H1 v g1 i1 => ⟨F1, env, rs, r.grow g1, e2, fun F2 H2 vs g2 i2 => k F2 H2 (v :: vs) (g1.trans g2) (IsL.cons (i1.mono g2.ff) i2)⟩⟩
def smallL : Nat := 100000
theorem small_line {n : Nat} (h : n ≤ smallL) : n ≤ sizeLine := Nat.le_trans h (by decide)
theorem small_lt {n : Nat} (h : n < smallL) : n < sizeLine := Nat.lt_of_lt_of_le h (by decide)
def dTup (f : DPs) : DP := fun env => match f env with
  | some ds => if ds.length ≤ smallL then some (.tup ds) else none
  | none => none
def dLst (f : DPs) : DP := fun env => match f env with
  | some ds => if ds.length ≤ smallL then some (.lst ds) else none
  | none => none
theorem r_tup {x1} (h : PA X es (tAs (tbX X cls) B fr)) : PE X (.Tuple es x1 pos) (tD (tbX X cls) B (dTup fr)) := weakE (pe_tup h) fun σ H Q ⟨F, env, d, r, e, k⟩ => by
  unfold dTup at e
  split at e
  · rename_i ds q
    split at e
    · rename_i hl
      cases e
      refine ⟨F, env, ds, r, q, fun F1 H1 vs g1 i => ⟨small_line (by rw [i.length]; exact hl), fun p hp => ?_⟩⟩
      have g2 := Grow.new (o := HO.tup vs) g1.fh hp
      refine k _ _ _ (g1.trans g2) ?_
      simp only [Is]
      exact ⟨p, vs, rfl, SqT.of upd_same, i.mono g2.ff⟩
    · cases e
  · cases e
theorem r_lst (h : PA X es (tAs (tbX X cls) B fr)) : PE X (.List es pos) (tO (tbX X cls) B (dLst fr)) := weakE (pe_lst h) fun σ H Q ⟨F, env, d, r, e, k⟩ => by
  unfold dLst at e
  split at e
  · rename_i ds q
    split at e
    · rename_i hl
      cases e
      refine ⟨F, env, ds, r, q, fun F1 H1 vs g1 i => ⟨small_line (by rw [i.length]; exact hl), fun p hp => ?_⟩⟩
      exact k F1 _ p (g1.trans (Grow.side g1.fh hp)) ⟨p, vs, rfl, g1.fh.free hp, upd_same, i⟩ (g1.hh.free hp)
    · cases e
  · cases e

/-! ### calls of defs -/
/-- the promise of a def that hands back data: m what it hands back, n how many arguments -/
def spD (T : Tb) (n : Nat) (m : List D → Option D) : Sp := fun vs H Q _ => ∃ F ds d, Same F H ∧ IsL T F vs ds ∧ ds.length = n ∧ m ds = some d ∧ ∀ F' H' v, Grow F H F' H' → Is T F' v d → Q v H'
theorem spD_len {T : Tb} {n : Nat} {m : List D → Option D} {vs : List V} {H : Hp} {Q : VK} {E : XK} (h : spD T n m vs H Q E) : vs.length = n := by
  obtain ⟨F, ds, d, _, i, hl, _⟩ := h
  rw [i.length, hl]
/-- dd: the defaults that fill up -/
def dCall (n : Nat) (m : List D → Option D) (dd : List D) (f : DPs) : DP := fun env => match f env with
  | some ds => if (ds ++ dd).length = n then m (ds ++ dd) else none
  | none => none
theorem tCall_of {T : Tb} {n : Nat} {m : List D → Option D} {dvs : List V} {dd : List D} {E : XK} (hd : ∀ F, IsL T F dvs dd) {σ : L2.St} {H : Hp} {Q : VK} (h : tD T B (dCall n m dd fr) σ H Q) : tCall (spD T n m) dvs E (tAs T B fr) σ H Q := by
  obtain ⟨F, env, d, r, e, k⟩ := h
  unfold dCall at e
  split at e
  · rename_i ds q
    split at e
    · rename_i hl
      exact ⟨F, env, ds, r, q, fun F1 H1 vs g1 i => ⟨F1, ds ++ dd, d, g1.fh, i.append (hd F1), hl, e, fun F2 H2 v g2 iv => k F2 H2 v (g1.trans g2) iv⟩⟩
    · cases e
  · cases e
variable {CX : CXT} {lv n : Nat} {fA : Addr} {fd : FuncData} {ps : List Str} {dvs : List V} {dvv : List Value} {dd : List D} {x mn : Str} {p apos : Pos} {m : List D → Option D} {o : Expr} {fo : DP}
theorem r_call (G : FnOk X.prog X.w X.K X.mg X.base CX lv fA fd ps (spD (tbX X cls) n m)) (hr : Room lv X.A) (hg : Gl X x) (hm : X.mg x = some (.ref fA)) (hk : PySem.W.keepIn X.K (.ref fA) = true) (hb : Binds X.K fd ps dvv) (hd : Vals dvs dvv) (hdd : ∀ F, IsL (tbX X cls) F dvs dd) (hx : Passes CX X E0)
    (ha : PA X (e :: es) (tAs (tbX X cls) B fr)) (hdb : (x == ("__debug__" : Str)) = false := by decide) (he : starEach (e :: es) X.env = (false, eval e X.env) :: starEach es X.env := by rfl) (hpl : (backTo pos (starEach es X.env)).any (·.1) = false := by rfl) :
    PE X (.Call (.Name x p) (e :: es) [] pos) (tD (tbX X cls) B (dCall n m dd fr)) := weakE (pe_call G hr hg hm hk hb hd hx ha hdb he hpl) fun _ _ _ h => tCall_of hdd h
end
end Pd

/-! Pd, statements, loops, defs. -/
namespace Pd
open PySem PySem.Spec PyProof.Rows L2

inductive Out where
  | nx (e : DEnv) | bk (e : DEnv) | ct (e : DEnv) | rt (d : D) | rs (c : Nat)
abbrev DS := DEnv → Option Out
structure Fin (B : Base) (F H : Hp) : Prop where
  bf : Same B.F F
  bh : Same B.H H
  fh : Same F H
  nw : ∀ a, F a ≠ none → B.F a ≠ none ∨ B.H a = none
theorem Rel.fin {T : Tb} {B : Base} {F : Hp} {σ : L2.St} {H : Hp} {env : DEnv} (r : Rel T B F σ H env) : Fin B F H := ⟨r.bf, r.bh, r.fh, r.nw⟩
/-- what is wanted behind a statement that ends so -/
def OutK (T : Tb) (B : Base) (W : Nat → Hp → Prop) (F : Hp) (D : Ends) : Out → Prop
  | .nx e => ∀ F' σ' H', Same F F' → Rel T B F' σ' H' e → D.nx σ' H'
  | .bk e => ∀ F' σ' H', Same F F' → Rel T B F' σ' H' e → D.bk σ' H'
  | .ct e => ∀ F' σ' H', Same F F' → Rel T B F' σ' H' e → D.ct σ' H'
  | .rt d => ∀ F' H' v, Fin B F' H' → Is T F' v d → D.rt v H'
  | .rs c => ∀ F' H', Fin B F' H' → W c H'
def tS (T : Tb) (B : Base) (W : Nat → Hp → Prop) (s : DS) : TS := fun D σ H => ∃ F env o, Rel T B F σ H env ∧ s env = some o ∧ OutK T B W F D o
theorem OutK.later {T : Tb} {B : Base} {W : Nat → Hp → Prop} {F F' : Hp} {D : Ends} {o : Out} (h : OutK T B W F D o) (e : Same F F') : OutK T B W F' D o := by
  cases o with
  | nx x => exact fun F2 σ' H' s r => h F2 σ' H' (e.trans s) r
  | bk x => exact fun F2 σ' H' s r => h F2 σ' H' (e.trans s) r
  | ct x => exact fun F2 σ' H' s r => h F2 σ' H' (e.trans s) r
  | rt d => exact h
  | rs c => exact h

section
variable {X : Cx} {cls : Nat → Addr} {B : Base} {W : Nat → Hp → Prop} {e a b : Expr} {pos : Pos} {f fa fb : DP} {st : Stmt} {rest ss us : List Stmt} {s t : DS} {c : DT} {x : Str} {i : Nat}

def dSeq (s t : DS) : DS := fun env => match s env with
  | some (.nx e) => t e
  | o => o
def dNext : DS := fun env => some (.nx env)
theorem r_snil : PSs X [] (tS (tbX X cls) B W dNext) := weakSs pss_nil fun D σ H ⟨F, env, o, r, e, k⟩ => by
  cases e
  exact k F σ H (Same.refl F) r
theorem r_scons (h1 : PS X st (tS (tbX X cls) B W s)) (h2 : PSs X rest (tS (tbX X cls) B W t)) : PSs X (st :: rest) (tS (tbX X cls) B W (dSeq s t)) := weakSs (pss_cons h1 h2) fun D σ H ⟨F, env, o, r, e, k⟩ => by
  unfold dSeq at e
  cases q : s env with
  | none => rw [q] at e; cases e
  | some z =>
    rw [q] at e
    cases z with
    | nx e1 => exact ⟨F, env, _, r, q, fun F' σ' H' sm r' => ⟨F', e1, o, r', e, k.later sm⟩⟩
    | bk e1 => cases e; exact ⟨F, env, _, r, q, k⟩
    | ct e1 => cases e; exact ⟨F, env, _, r, q, k⟩
    | rt d => cases e; exact ⟨F, env, _, r, q, k⟩
    | rs c => cases e; exact ⟨F, env, _, r, q, k⟩
theorem r_sone (h1 : PS X st (tS (tbX X cls) B W s)) : PSs X [st] (tS (tbX X cls) B W s) := pss_one h1

/-! ### simple statements -/
def dSet (i : Nat) (f : DP) : DS := fun env => (f env).map fun d => .nx (env.set i (some (d, .fz)))
def dSetO (i : Nat) (f : DP) : DS := fun env => (f env).map fun d => .nx (env.set i (some (d, .ow)))
def dRet (f : DP) : DS := fun env => (f env).map .rt
def dRetN : DS := fun _ => some (.rt .non)
def dDrop (f : DP) : DS := fun env => (f env).map fun _ => .nx env
def dIf (c : DT) (s t : DS) : DS := fun env => match c env with
  | some true => s env
  | some false => t env
  | none => none
def dBreak : DS := fun env => some (.bk env)
def dCont : DS := fun env => some (.ct env)
/-- an own thing is read from now on -/
def frz (i : Nat) (env : DEnv) : DEnv := match env[i]? with
  | some (some (d, o)) => if o = .fz then env else env.set i (some (d, .fz))
  | _ => env
def dFrz (i : Nat) (s : DS) : DS := fun env => s (frz i env)
theorem tFrz {T : Tb} {D : Ends} {σ : L2.St} {H : Hp} (h : tS T B W (dFrz i s) D σ H) : tS T B W s D σ H := by
  obtain ⟨F, env, o, r, e, k⟩ := h
  unfold dFrz frz at e
  split at e
  · rename_i d fl q
    split at e
    · exact ⟨F, env, o, r, e, k⟩
    · rename_i hne
      obtain ⟨F', sm, r'⟩ := r.freeze hne q
      exact ⟨F', _, o, r', e, k.later sm⟩
  · exact ⟨F, env, o, r, e, k⟩
theorem r_frz (h : PS X st (tS (tbX X cls) B W s)) : PS X st (tS (tbX X cls) B W (dFrz i s)) := weakS h fun _ _ _ q => tFrz q
theorem r_set {tg : Expr} {g : ∀ {te : TE}, PE X e te → PS X (.Assign [tg] e pos) (tAsg te (gName i))} (h : PE X e (tD (tbX X cls) B f)) : PS X (.Assign [tg] e pos) (tS (tbX X cls) B W (dSet i f)) := weakS (g h) fun D σ H ⟨F, env, o, r, e, k⟩ => by
  obtain ⟨d, e1, rfl⟩ := Option.map_eq_some_iff.mp e
  exact ⟨F, env, d, r, e1, fun F' H' v g1 iv => k F' _ H' g1.ff ((r.grow g1).set iv)⟩
theorem r_setO {tg : Expr} {g : ∀ {te : TE}, PE X e te → PS X (.Assign [tg] e pos) (tAsg te (gName i))} (h : PE X e (tO (tbX X cls) B f)) : PS X (.Assign [tg] e pos) (tS (tbX X cls) B W (dSetO i f)) := weakS (g h) fun D σ H ⟨F, env, o, r, e, k⟩ => by
  obtain ⟨d, e1, rfl⟩ := Option.map_eq_some_iff.mp e
  refine ⟨F, env, d, r, e1, fun F' H' a g1 iv hn => k F' _ H' g1.ff ((r.grow g1).setO iv (r.bh.free hn) ?_)⟩
  rintro ⟨j, d', o1, ho, h1, h2⟩
  obtain ⟨v, k1, _, k3, _⟩ := r.sl j d' o1 h1
  rw [h2] at k1; cases k1
  obtain ⟨b', o', eb, _, hb⟩ := (k3 ho).1.at
  cases eb
  rw [hn] at hb; cases hb
theorem r_ret (h : PE X e (tD (tbX X cls) B f)) : PS X (.Return (some e) pos) (tS (tbX X cls) B W (dRet f)) := weakS (ps_ret h) fun D σ H ⟨F, env, o, r, e, k⟩ => by
  obtain ⟨d, e1, rfl⟩ := Option.map_eq_some_iff.mp e
  exact ⟨F, env, d, r, e1, fun F' H' v g1 iv => k F' H' v (r.grow g1).fin iv⟩
theorem r_retN : PS X (.Return none pos) (tS (tbX X cls) B W dRetN) := weakS ps_retN fun D σ H ⟨F, env, o, r, e, k⟩ => by
  cases e
  exact k F H .non r.fin (by simp only [Is])
theorem r_expr (h : PE X e (tD (tbX X cls) B f)) (hs : swapsWith e none pos.line X.env = pure false := by rfl) : PS X (.Expr e pos) (tS (tbX X cls) B W (dDrop f)) := weakS (ps_expr h hs) fun D σ H ⟨F, env, o, r, e, k⟩ => by
  obtain ⟨d, e1, rfl⟩ := Option.map_eq_some_iff.mp e
  exact ⟨F, env, d, r, e1, fun F' H' v g1 iv => k F' σ H' g1.ff (r.grow g1)⟩
theorem r_pass : PS X (.Pass pos) (tS (tbX X cls) B W dNext) := weakS ps_pass fun D σ H ⟨F, env, o, r, e, k⟩ => by
  cases e
  exact k F σ H (Same.refl F) r
theorem r_break : PS X (.Break pos) (tS (tbX X cls) B W dBreak) := weakS ps_break fun D σ H ⟨F, env, o, r, e, k⟩ => by
  cases e
  exact k F σ H (Same.refl F) r
theorem r_cont : PS X (.Continue pos) (tS (tbX X cls) B W dCont) := weakS ps_continue fun D σ H ⟨F, env, o, r, e, k⟩ => by
  cases e
  exact k F σ H (Same.refl F) r
theorem r_if (hc : PT X e (tTt (tbX X cls) B c)) (ha : PSs X ss (tS (tbX X cls) B W s)) (hb : PSs X us (tS (tbX X cls) B W t)) : PS X (.If e ss us pos) (tS (tbX X cls) B W (dIf c s t)) := weakS (ps_if hc ha hb) fun D σ H ⟨F, env, o, r, e, k⟩ => by
  unfold dIf at e
  split at e
  · rename_i q
    refine ⟨F, env, true, r, q, fun F' H' g1 => ?_⟩
    refine iteT ?_
    exact ⟨F', env, o, r.grow g1, e, k.later g1.ff⟩
  · rename_i q
    refine ⟨F, env, false, r, q, fun F' H' g1 => ?_⟩
    refine iteF ?_
    exact ⟨F', env, o, r.grow g1, e, k.later g1.ff⟩
  · cases e

/-! ### what is walked, targets -/
/-- at any later heap the walk gives xs, one by one -/
def Yields (T : Tb) (J : It) (F : Hp) (xs : List D) : Prop := ∀ F2 H2 i, Same F F2 → Same F2 H2 →
  (∀ d, xs[i]? = some d → J.go i H2 ∧ ∀ x H3, J.yld i H2 x H3 → ∃ F3, Grow F2 H2 F3 H3 ∧ Is T F3 x d) ∧ (xs.length ≤ i → J.stop i H2)
def tIt (T : Tb) (B : Base) (it : DPs) : TI := fun σ H R => ∃ F env xs, Rel T B F σ H env ∧ it env = some xs ∧ ∀ J F' H', Grow F H F' H' → Yields T J F' xs → R J H'
theorem weakI {tg iter : Expr} {w w' : TI} (p : PI X tg iter w) (h : ∀ σ H R, w' σ H R → w σ H R) : PI X tg iter w' := ⟨fun pins s σ H R I q => p.run pins s σ H R I (h σ H R q)⟩
theorem PI.or {tg iter : Expr} {w w' : TI} (p : PI X tg iter w) (p' : PI X tg iter w') : PI X tg iter (fun σ H R => w σ H R ∨ w' σ H R) := ⟨fun pins s σ H R I q => by
  rcases q with q | q
  · exact p.run pins s σ H R I q
  · exact p'.run pins s σ H R I q⟩
theorem yl_list {T : Tb} {F : Hp} {ad : Addr} {vs : List V} {xs : List D} (h : SqL T.K F ad vs) (i : IsL T F vs xs) : Yields T (Itl T.K ad) F xs := fun F2 H2 j s1 s2 => by
  have h2 : SqL T.K H2 ad vs := sqL_mono (s1.trans s2) h
  refine ⟨fun d hd => ?_, fun hl => ⟨vs, h2, by rw [i.length]; exact hl⟩⟩
  obtain ⟨v, hv, iv⟩ := i.get hd
  refine ⟨⟨vs, v, h2, hv⟩, fun x H3 y => ?_⟩
  obtain ⟨rfl, y⟩ := y
  have e := y vs h2
  rw [hv] at e; cases e
  exact ⟨F2, Grow.refl s2, iv.mono s1⟩
theorem yl_tup {T : Tb} {F : Hp} {ad : Addr} {vs : List V} {xs : List D} (h : SqT T.K F ad vs) (i : IsL T F vs xs) : Yields T (Itt T.K ad) F xs := fun F2 H2 j s1 s2 => by
  have h2 : SqT T.K H2 ad vs := sqT_mono (s1.trans s2) h
  refine ⟨fun d hd => ?_, fun hl => ⟨vs, h2, by rw [i.length]; exact hl⟩⟩
  obtain ⟨v, hv, iv⟩ := i.get hd
  refine ⟨⟨vs, v, h2, hv⟩, fun x H3 y => ?_⟩
  obtain ⟨rfl, y⟩ := y
  have e := y vs h2
  rw [hv] at e; cases e
  exact ⟨F2, Grow.refl s2, iv.mono s1⟩
def charsD (s : Str) : List D := s.cps.toList.map fun c => .str ⟨#[c]⟩
/-- the items of a list or a tuple -/
def dIt (f : DP) : DPs := fun env => match f env with
  | some (.lst xs) => some xs
  | some (.tup xs) => some xs
  | _ => none
theorem r_iter {tg l : Expr} (h : PE X l (tD (tbX X cls) B f)) : PI X tg l (tIt (tbX X cls) B (dIt f)) := weakI (PI.or (pi_list h) (pi_tup h)) fun σ H R ⟨F, env, xs, r, e, k⟩ => by
  unfold dIt at e
  split at e
  · rename_i ys q
    cases e
    refine .inl ⟨F, env, _, r, q, fun F' H' v g iv => ?_⟩
    simp only [Is] at iv
    obtain ⟨ad, vs, rfl, h1, h2⟩ := iv
    exact ⟨ad, rfl, ⟨vs, sqL_mono g.fh h1⟩, k _ F' H' g (yl_list h1 h2)⟩
  · rename_i ys q
    cases e
    refine .inr ⟨F, env, _, r, q, fun F' H' v g iv => ?_⟩
    simp only [Is] at iv
    obtain ⟨ad, vs, rfl, h1, h2⟩ := iv
    exact ⟨ad, rfl, ⟨vs, sqT_mono g.fh h1⟩, k _ F' H' g (yl_tup h1 h2)⟩
  · cases e
end
end Pd

/-! Pd: what is walked, targets, for, while, list comprehensions, defs. -/
namespace Pd
open PySem PySem.Spec PyProof.Rows L2

section
variable {X : Cx} {cls : Nat → Addr} {B : Base} {W : Nat → Hp → Prop} {e a b tg iter : Expr} {pos p : Pos} {f fa fb : DP} {it fr : DPs} {st : Stmt} {rest ss us : List Stmt} {s t : DS} {c : DT} {x : Str} {i : Nat}

theorem yl_str {T : Tb} {F : Hp} {s : Str} : Yields T (Its s) F (charsD s) := fun F2 H2 j s1 s2 => by
  refine ⟨fun d hd => ?_, fun hl => (show s.cps.size ≤ j by simpa [charsD] using hl)⟩
  unfold charsD at hd
  rw [List.getElem?_map] at hd
  obtain ⟨ch, h1, rfl⟩ := Option.map_eq_some_iff.mp hd
  have h1' : s.cps[j]? = some ch := by simpa using h1
  refine ⟨(Array.getElem?_eq_some_iff.mp h1').1, fun v H3 y => ?_⟩
  obtain ⟨rfl, ch', h2, rfl⟩ := y
  rw [h1'] at h2; cases h2
  exact ⟨F2, Grow.refl s2, by simp only [Is]⟩
/-- the signs of a text -/
def dItS (f : DP) : DPs := fun env => match f env with
  | some (.str s) => some (charsD s)
  | _ => none
theorem r_iterS (h : PE X e (tD (tbX X cls) B f)) : PI X tg e (tIt (tbX X cls) B (dItS f)) := weakI (pi_str h) fun σ H R ⟨F, env, xs, r, e, k⟩ => by
  unfold dItS at e
  split at e
  · rename_i s q
    cases e
    refine ⟨F, env, _, r, q, fun F' H' v g iv => ?_⟩
    simp only [Is] at iv
    exact ⟨s, iv, k _ F' H' g yl_str⟩
  · cases e
theorem yl_range {T : Tb} {F : Hp} {lo : Int} {n : Nat} : Yields T (Itr lo n) F ((List.range n).map fun j => .int (lo + (j : Nat))) := fun F2 H2 j s1 s2 => by
  refine ⟨fun d hd => ?_, fun hl => (show n ≤ j by simpa using hl)⟩
  rw [List.getElem?_map] at hd
  obtain ⟨q, h1, rfl⟩ := Option.map_eq_some_iff.mp hd
  obtain ⟨h2, h3⟩ := List.getElem?_eq_some_iff.mp h1
  rw [List.getElem_range] at h3
  subst h3
  refine ⟨(show j < n by simpa using h2), fun v H3 y => ?_⟩
  obtain ⟨rfl, rfl⟩ := y
  exact ⟨F2, Grow.refl s2, by simp only [Is]⟩
def rangeD (lo hi : Int) : List D := (List.range (hi - lo).toNat).map fun j => .int (lo + (j : Nat))
def dRg1 (fr : DPs) : DPs := fun env => match fr env with
  | some [.int j] => if -1000000 ≤ j ∧ j ≤ 1000000 then some (rangeD 0 j) else none
  | _ => none
def dRg2 (fr : DPs) : DPs := fun env => match fr env with
  | some [.int i, .int j] => if (-1000000 ≤ i ∧ i ≤ 1000000) ∧ (-1000000 ≤ j ∧ j ≤ 1000000) then some (rangeD i j) else none
  | _ => none
theorem r_range1 (hg : Gl X "range") (hm : X.mg "range" = none) (ha : PA X [a] (tAs (tbX X cls) B fr)) (hs : starEach [a] X.env = [(false, eval a X.env)] := by rfl) : PI X tg (.Call (.Name "range" p) [a] [] pos) (tIt (tbX X cls) B (dRg1 fr)) :=
  weakI (pi_range1 hg hm ha hs) fun σ H R ⟨F, env, xs, r, e, k⟩ => by
  unfold dRg1 at e
  split at e
  · rename_i j q
    split at e
    · rename_i hb
      cases e
      refine ⟨F, env, _, r, q, fun F' H' vs g iv => ?_⟩
      obtain ⟨v, r', rfl, i1, i2⟩ := iv.cons_inv
      rw [i2.nil_inv]
      simp only [Is] at i1
      subst i1
      refine ⟨j, rfl, by omega, by omega, k _ F' H' g ?_⟩
      unfold rangeD
      have e0 : (j - 0).toNat = j.toNat := by rw [Int.sub_zero]
      rw [e0]
      exact yl_range
    · cases e
  · cases e
theorem r_range2 (hg : Gl X "range") (hm : X.mg "range" = none) (ha : PA X [a, b] (tAs (tbX X cls) B fr)) (hs : starEach [a, b] X.env = [(false, eval a X.env), (false, eval b X.env)] := by rfl) (hs2 : starEach [b] X.env = [(false, eval b X.env)] := by rfl) :
    PI X tg (.Call (.Name "range" p) [a, b] [] pos) (tIt (tbX X cls) B (dRg2 fr)) := weakI (pi_range2 hg hm ha hs hs2) fun σ H R ⟨F, env, xs, r, e, k⟩ => by
  unfold dRg2 at e
  split at e
  · rename_i i j q
    split at e
    · rename_i hb
      cases e
      refine ⟨F, env, _, r, q, fun F' H' vs g iv => ?_⟩
      obtain ⟨v, r', rfl, i1, i2⟩ := iv.cons_inv
      obtain ⟨v2, r2, rfl, i3, i4⟩ := i2.cons_inv
      rw [i4.nil_inv]
      simp only [Is] at i1 i3
      subst i1 i3
      exact ⟨i, j, rfl, ⟨by omega, by omega, by omega, by omega⟩, k _ F' H' g yl_range⟩
    · cases e
  · cases e

/-! ### targets: a name, or names in a tuple -/
inductive Tgt where
  | nm (i : Nat) | tp (is : List Nat)
def setsE : List Nat → List D → DEnv → Option DEnv
  | [], [], env => some env
  | i :: is, d :: ds, env => setsE is ds (env.set i (some (d, .fz)))
  | _, _, _ => none
def tgtE : Tgt → D → DEnv → Option DEnv
  | .nm i, d, env => some (env.set i (some (d, .fz)))
  | .tp is, .tup ds, env => setsE is ds env
  | .tp _, _, _ => none
def Tgt.slots : Tgt → List Nat
  | .nm i => [i]
  | .tp is => is
def gD (T : Tb) (B : Base) (t : Tgt) : TG := fun x σ H Q => ∃ F env d e', Rel T B F σ H env ∧ Is T F x d ∧ tgtE t d env = some e' ∧ ∀ σ', Rel T B F σ' H e' → (∀ vs : List Nat, (∀ i ∈ t.slots, i ∈ vs) → wipe σ' vs = wipe σ vs) → Q σ' H
def gDs (T : Tb) (B : Base) (is : List Nat) : TGs := fun xs σ H Q => ∃ F env ds e', Rel T B F σ H env ∧ IsL T F xs ds ∧ setsE is ds env = some e' ∧ ∀ σ', Rel T B F σ' H e' → (∀ vs : List Nat, (∀ i ∈ is, i ∈ vs) → wipe σ' vs = wipe σ vs) → Q σ' H
theorem weakG {tg : Expr} {t t' : TG} (p : PG X tg t) (h : ∀ v σ H Q, t' v σ H Q → t v σ H Q) : PG X tg t' := ⟨fun pins s σ H v u Q I r q => p.run pins s σ H v u Q I r (h v σ H Q q)⟩
theorem weakGs {tg : List Expr} {t t' : TGs} (p : PGs X tg t) (h : ∀ v σ H Q, t' v σ H Q → t v σ H Q) : PGs X tg t' := ⟨fun pins s σ H v u Q I r q => p.run pins s σ H v u Q I r (h v σ H Q q)⟩
theorem wipe_set {σ : L2.St} {i : Nat} {y : Option V} : ∀ {vs : List Nat}, i ∈ vs → wipe (σ.set i y) vs = wipe σ vs
  | [], h => by cases h
  | v :: vs, h => by
    show (wipe (σ.set i y) vs).set v none = (wipe σ vs).set v none
    by_cases q : i ∈ vs
    · rw [wipe_set q]
    · have ev : i = v := by
        rcases List.mem_cons.mp h with z | z
        · exact z
        · exact absurd z q
      subst ev
      have out : ∀ {us : List Nat}, i ∉ us → wipe (σ.set i y) us = (wipe σ us).set i y := by
        intro us
        induction us with
        | nil => intro _; rfl
        | cons u us ih =>
          intro hn
          show (wipe (σ.set i y) us).set u none = ((wipe σ us).set u none).set i y
          have h1 : i ≠ u := fun z => hn (by rw [z]; exact List.mem_cons_self)
          rw [ih fun z => hn (List.mem_cons_of_mem _ z), List.set_comm _ _ h1]
      rw [out q, List.set_set]
theorem r_tgn (h : PG X tg (gName i)) : PG X tg (gD (tbX X cls) B (.nm i)) := weakG h fun v σ H Q ⟨F, env, d, e', r, iv, ht, k⟩ => by
  cases ht
  exact k _ (r.set iv) fun vs hv => wipe_set (hv i (by simp [Tgt.slots]))
theorem r_tgnil : PGs X [] (gDs (tbX X cls) B []) := weakGs pgs_nil fun v σ H Q ⟨F, env, ds, e', r, iv, ht, k⟩ => by
  cases ds with
  | nil =>
    cases ht
    exact ⟨iv.nil_inv, k σ r fun _ _ => rfl⟩
  | cons d ds => cases ht
theorem r_tgcons {es : List Expr} {is : List Nat} (h1 : PG X e (gName i)) (h2 : PGs X es (gDs (tbX X cls) B is)) (hs : (assignEach (e :: es) X.env).map (·.2) = assign e X.env :: (assignEach es X.env).map (·.2) := by rfl) : PGs X (e :: es) (gDs (tbX X cls) B (i :: is)) :=
  weakGs (pgs_cons h1 h2 hs) fun v σ H Q ⟨F, env, ds, e', r, iv, ht, k⟩ => by
  cases ds with
  | nil => cases ht
  | cons d ds =>
    obtain ⟨y, r', rfl, i1, i2⟩ := iv.cons_inv
    refine ⟨y, r', rfl, ⟨F, _, ds, e', r.set i1, i2, ht, fun σ' r2 hw => k σ' r2 fun vs hv => ?_⟩⟩
    rw [hw vs fun j hj => hv j (List.mem_cons_of_mem _ hj), wipe_set (hv i List.mem_cons_self)]
theorem r_tgt {es : List Expr} {kk : Nat} {is : List Nat} {n : Nat} (hc : X.calm = true) (h : PGs X es (gDs (tbX X cls) B is)) (hl : is.length = n) (hn : (assignEach es X.env).length = n := by rfl) (hst : (assignEach es X.env).findIdx? (·.1) = none := by rfl) :
    PG X (.Tuple es kk pos) (gD (tbX X cls) B (.tp is)) := weakG (pg_tup hc h hn hst) fun v σ H Q ⟨F, env, d, e', r, iv, ht, k⟩ => by
  cases d with
  | tup ds =>
    simp only [Is] at iv
    obtain ⟨ad, vs, rfl, h1, h2⟩ := iv
    have len : ∀ {is : List Nat} {ds : List D} {env : DEnv}, setsE is ds env = some e' → ds.length = is.length := by
      intro is
      induction is with
      | nil => intro ds env q; cases ds with
        | nil => rfl
        | cons _ _ => cases q
      | cons j js ih => intro ds env q; cases ds with
        | nil => cases q
        | cons d ds => simp [ih q]
    exact ⟨ad, vs, rfl, sqT_mono r.fh h1, by rw [h2.length, len ht, hl], F, env, ds, e', r, h2, ht, k⟩
  | _ => cases ht

/-! ### for -/
def forL (t : Tgt) (body : DS) : List D → DEnv → Option Out
  | [], e => some (.nx e)
  | x :: xs, e => match tgtE t x e with
    | none => none
    | some e1 => match body e1 with
      | some (.nx e2) => forL t body xs e2
      | some (.ct e2) => forL t body xs e2
      | some (.bk e2) => some (.nx e2)
      | some (.rt d) => some (.rt d)
      | some (.rs c) => some (.rs c)
      | none => none
def dFor (t : Tgt) (it : DPs) (body : DS) : DS := fun env => match it env with
  | some xs => forL t body xs env
  | none => none
theorem tFor_of {T : Tb} {tt : Tgt} {D : Ends} {σ : L2.St} {H : Hp} (h : tS T B W (dFor tt it s) D σ H) : tFor (tIt T B it) (gD T B tt) (tS T B W s) D σ H := by
  obtain ⟨F, env, o, r, e, k⟩ := h
  unfold dFor at e
  split at e
  · rename_i xs q
    refine ⟨F, env, xs, r, q, fun J F' H' g Y => ?_⟩
    refine ⟨fun j m σ2 H2 => m = xs.length - j ∧ ∃ F2 env2, Same F' F2 ∧ Rel T B F2 σ2 H2 env2 ∧ forL tt s (xs.drop j) env2 = some o, ⟨xs.length, by simp, F', env, Same.refl F', r.grow g, by simpa using e⟩, ?_⟩
    rintro j m σ2 H2 ⟨rfl, F2, env2, sm, r2, e2⟩
    obtain ⟨yl, ys⟩ := Y F2 H2 j sm r2.fh
    by_cases hl : j < xs.length
    · have hd : xs[j]? = some xs[j] := by simp [hl]
      rw [List.drop_eq_getElem_cons hl] at e2
      obtain ⟨hgo, hy⟩ := yl _ hd
      refine .inr ⟨hgo, fun σ' H' => ∃ F2 env2, Same F' F2 ∧ Rel T B F2 σ' H' env2 ∧ forL tt s (xs.drop (j + 1)) env2 = some o, fun σ' H' ⟨F3, env3, z1, z2, z3⟩ => ⟨xs.length - (j + 1), by omega, rfl, F3, env3, z1, z2, z3⟩, fun x H3 y => ?_⟩
      obtain ⟨F3, g3, iv⟩ := hy x H3 y
      unfold forL at e2
      split at e2
      · cases e2
      · rename_i e1 ht
        refine ⟨F3, env2, _, e1, r2.grow g3, iv, ht, fun σ' r' _ => ?_⟩
        have again : ∀ {e3 : DEnv}, forL tt s (xs.drop (j + 1)) e3 = some o → ∀ F4 σ4 H4, Same F3 F4 → Rel T B F4 σ4 H4 e3 → ∃ F2 env2, Same F' F2 ∧ Rel T B F2 σ4 H4 env2 ∧ forL tt s (xs.drop (j + 1)) env2 = some o :=
          fun z F4 σ4 H4 z1 z2 => ⟨F4, _, (sm.trans g3.ff).trans z1, z2, z⟩
        have up : Same F F3 := (g.ff.trans sm).trans g3.ff
        split at e2
        · rename_i e3 hb
          exact ⟨F3, e1, _, r', hb, again e2⟩
        · rename_i e3 hb
          exact ⟨F3, e1, _, r', hb, again e2⟩
        · rename_i e3 hb
          cases e2
          exact ⟨F3, e1, _, r', hb, fun F4 σ4 H4 z1 z2 => k F4 σ4 H4 (up.trans z1) z2⟩
        · rename_i d hb
          cases e2
          exact ⟨F3, e1, _, r', hb, k⟩
        · rename_i c hb
          cases e2
          exact ⟨F3, e1, _, r', hb, k⟩
        · cases e2
    · refine .inl ⟨ys (by omega), ?_⟩
      rw [List.drop_of_length_le (by omega)] at e2
      cases e2
      exact k F2 σ2 H2 (g.ff.trans sm) r2
  · cases e
theorem r_for {tt : Tgt} (hp : PassesOwn (model X.prog X.w) X.A X.env X.xe) (hc : X.calm = true) (hi : PI X tg iter (tIt (tbX X cls) B it)) (hg : PG X tg (gD (tbX X cls) B tt)) (hb : PSs X ss (tS (tbX X cls) B W s)) (hs : ∀ x, foldedSetIterable iter X.env x = pure x := by intro _; rfl) :
    PS X (.For tg iter ss [] pos) (tS (tbX X cls) B W (dFor tt it s)) := weakS (ps_for hp hc hi hg hb hs) fun _ _ _ h => tFor_of h

/-! ### while -/
def whileL (c : DT) (body : DS) : Nat → DEnv → Option Out
  | 0, _ => none
  | n + 1, e => match c e with
    | none => none
    | some false => some (.nx e)
    | some true => match body e with
      | some (.nx e2) => whileL c body n e2
      | some (.ct e2) => whileL c body n e2
      | some (.bk e2) => some (.nx e2)
      | some (.rt d) => some (.rt d)
      | some (.rs c) => some (.rs c)
      | none => none
def dWhile (n : Nat) (c : DT) (body : DS) : DS := whileL c body n
theorem tWhile_of {T : Tb} {n : Nat} {D : Ends} {σ : L2.St} {H : Hp} (h : tS T B W (dWhile n c s) D σ H) : tWhile (tTt T B c) (tS T B W s) D σ H := by
  obtain ⟨F, env, o, r, e, k⟩ := h
  refine ⟨fun m σ2 H2 => ∃ F2 env2, Same F F2 ∧ Rel T B F2 σ2 H2 env2 ∧ whileL c s m env2 = some o, ⟨n, F, env, Same.refl F, r, e⟩, ?_⟩
  rintro m σ2 H2 ⟨F2, env2, sm, r2, e2⟩
  cases m with
  | zero => cases e2
  | succ m =>
    unfold whileL at e2
    split at e2
    · cases e2
    · rename_i q
      cases e2
      refine ⟨F2, env2, false, r2, q, fun F3 H3 g3 => ?_⟩
      refine iteF ?_
      exact k F3 σ2 H3 (sm.trans g3.ff) (r2.grow g3)
    · rename_i q
      refine ⟨F2, env2, true, r2, q, fun F3 H3 g3 => ?_⟩
      refine iteT ?_
      refine ⟨fun σ' H' => ∃ F2 env2, Same F F2 ∧ Rel T B F2 σ' H' env2 ∧ whileL c s m env2 = some o, fun σ' H' z => ⟨m, Nat.lt_succ_self m, z⟩, ?_⟩
      have up : Same F F3 := sm.trans g3.ff
      have again : ∀ {e3 : DEnv}, whileL c s m e3 = some o → ∀ F4 σ4 H4, Same F3 F4 → Rel T B F4 σ4 H4 e3 → ∃ F2 env2, Same F F2 ∧ Rel T B F2 σ4 H4 env2 ∧ whileL c s m env2 = some o :=
        fun z F4 σ4 H4 z1 z2 => ⟨F4, _, up.trans z1, z2, z⟩
      split at e2
      · rename_i e3 hb
        exact ⟨F3, env2, _, r2.grow g3, hb, again e2⟩
      · rename_i e3 hb
        exact ⟨F3, env2, _, r2.grow g3, hb, again e2⟩
      · rename_i e3 hb
        cases e2
        exact ⟨F3, env2, _, r2.grow g3, hb, fun F4 σ4 H4 z1 z2 => k F4 σ4 H4 (up.trans z1) z2⟩
      · rename_i d hb
        cases e2
        exact ⟨F3, env2, _, r2.grow g3, hb, k⟩
      · rename_i c hb
        cases e2
        exact ⟨F3, env2, _, r2.grow g3, hb, k⟩
      · cases e2
theorem r_while {n : Nat} (hp : PassesOwn (model X.prog X.w) X.A X.env X.xe) (hc : PT X e (tTt (tbX X cls) B c)) (hb : PSs X ss (tS (tbX X cls) B W s)) : PS X (.While e ss [] pos) (tS (tbX X cls) B W (dWhile n c s)) :=
  weakS (ps_while hp hc hb) fun _ _ _ h => tWhile_of h
end
end Pd

/-! Pd: list comprehensions; defs by their bodies. -/
namespace Pd
open PySem PySem.Spec PyProof.Rows L2

def wipeE (env : DEnv) : List Nat → DEnv
  | [] => env
  | v :: vs => (wipeE env vs).set v none
theorem Rel.wipe {T : Tb} {B : Base} {F H : Hp} {σ : L2.St} {env : DEnv} (r : Rel T B F σ H env) : ∀ vs : List Nat, Rel T B F (wipe σ vs) H (wipeE env vs)
  | [] => r
  | v :: vs => (r.wipe vs).forget v none
theorem wipe_idem {σ : L2.St} {vs : List Nat} : ∀ {us : List Nat}, (∀ u ∈ us, u ∈ vs) → wipe (wipe σ us) vs = wipe σ vs
  | [], _ => rfl
  | u :: us, h => by
    show wipe ((wipe σ us).set u none) vs = _
    rw [wipe_set (h u List.mem_cons_self), wipe_idem fun w hw => h w (List.mem_cons_of_mem _ hw)]

def compL (tt : Tgt) (c : DT) (f : DP) : List D → DEnv → Option (List D)
  | [], _ => some []
  | x :: xs, e => match tgtE tt x e with
    | none => none
    | some e1 => match c e1 with
      | none => none
      | some false => compL tt c f xs e
      | some true => match f e1 with
        | none => none
        | some d => match compL tt c f xs e with
          | none => none
          | some ds => some (d :: ds)
def dYes : DT := fun _ => some true
/-- vs: the comprehension's own slots -/
def dLc (vs : List Nat) (tt : Tgt) (it : DPs) (c : DT) (f : DP) : DP := fun env => match it env with
  | some xs => if xs.length ≤ smallL then (compL tt c f xs (wipeE env vs)).map .lst else none
  | none => none
theorem compL_length {tt : Tgt} {c : DT} {f : DP} : ∀ {xs : List D} {e : DEnv} {ds : List D}, compL tt c f xs e = some ds → ds.length ≤ xs.length
  | [], e, ds, h => by cases h; exact Nat.le_refl _
  | x :: xs, e, ds, h => by
    unfold compL at h
    split at h
    · cases h
    · split at h
      · cases h
      · have := compL_length h
        simp only [List.length_cons]; omega
      · split at h
        · cases h
        · split at h
          · cases h
          · rename_i q
            cases h
            have := compL_length q
            simp only [List.length_cons]; omega

section
variable {X : Cx} {cls : Nat → Addr} {B : Base} {W : Nat → Hp → Prop} {e tg iter elt : Expr} {pos p : Pos} {f fa fb : DP} {it fr : DPs} {ifs : List Expr} {scope : Scope} {own : List (Str × Nat)} {s t : DS} {c : DT} {tt : Tgt} {vs : List Nat}

theorem r_ifs0 : PTs X [] (tTt (tbX X cls) B dYes) := ⟨fun pins s σ H Q I ⟨F, env, b, r, e, k⟩ => by
  cases e
  exact pts_nil.run pins s σ H Q I (k F H (Grow.refl r.fh))⟩
theorem r_ifs1 (h : PT X e (tTt (tbX X cls) B c)) : PTs X [e] (tTt (tbX X cls) B c) := pts_one h

theorem tLc_of {T : Tb} {σ : L2.St} {H : Hp} {Q : VK} (hv : ∀ i ∈ tt.slots, i ∈ vs) (h : tO T B (dLc vs tt it c f) σ H Q) : tLc (tIt T B it) (gD T B tt) (tTt T B c) (tD T B f) vs σ H Q := by
  obtain ⟨F, env, d, r, e, k⟩ := h
  unfold dLc at e
  split at e
  · rename_i xs q
    split at e
    · rename_i hsz
      obtain ⟨out, ho, rfl⟩ := Option.map_eq_some_iff.mp e
      refine ⟨F, env, xs, r, q, fun J F1 H1 g1 Y L hL => ?_⟩
      have hF1 : F1 L = none := g1.fh.free hL
      refine ⟨fun j m H2 => m = xs.length - j ∧ ∃ F2 acc done todo, Grow F1 H1 F2 H2 ∧ H2 L = some (.lst acc) ∧ F2 L = none ∧ IsL T F2 acc done ∧ done.length ≤ j ∧ compL tt c f (xs.drop j) (wipeE env vs) = some todo ∧ done ++ todo = out,
        ⟨xs.length, by simp, F1, [], [], out, Grow.side g1.fh hL, upd_same, hF1, IsL.nil, Nat.le_refl _, by simpa using ho, rfl⟩, ?_⟩
      rintro j m H2 ⟨rfl, F2, acc, done, todo, g2, hl2, hf2, ia, hdl, ct, ed⟩
      obtain ⟨yl, ys⟩ := Y F2 H2 j g2.ff g2.fh
      by_cases hj : j < xs.length
      · have hd : xs[j]? = some xs[j] := by simp [hj]
        rw [List.drop_eq_getElem_cons hj] at ct
        obtain ⟨hgo, hy⟩ := yl _ hd
        refine .inr ⟨hgo, fun H' => ∃ F2 acc done todo, Grow F1 H1 F2 H' ∧ H' L = some (.lst acc) ∧ F2 L = none ∧ IsL T F2 acc done ∧ done.length ≤ j + 1 ∧ compL tt c f (xs.drop (j + 1)) (wipeE env vs) = some todo ∧ done ++ todo = out,
          fun H' ⟨F3, a1, a2, a3, z⟩ => ⟨xs.length - (j + 1), by omega, rfl, F3, a1, a2, a3, z⟩, fun x H3 y => ?_⟩
        obtain ⟨F3, g3, ix⟩ := hy x H3 y
        have g13 := g2.trans g3
        have hl3 := g3.hh L _ hl2
        have hf3 := g3.own hf2 (by rw [hl2]; simp)
        unfold compL at ct
        split at ct
        · cases ct
        · rename_i e1 ht
          have rw3 : Rel T B F3 (wipe σ vs) H3 (wipeE env vs) := ((r.grow g1).grow g13).wipe vs
          refine ⟨F3, _, _, e1, rw3, ix, ht, fun σ' r' hw => ⟨?_, ?_⟩⟩
          · rw [hw vs hv, wipe_idem fun _ h => h]
          · split at ct
            · cases ct
            · rename_i hc
              refine ⟨F3, e1, false, r', hc, fun F4 H4 g4 => ?_⟩
              refine iteF ?_
              exact ⟨F4, acc, done, todo, g13.trans g4, g4.hh L _ hl3, g4.own hf3 (by rw [hl3]; simp), ia.mono (g3.ff.trans g4.ff), by omega, ct, ed⟩
            · rename_i hc
              refine ⟨F3, e1, true, r', hc, fun F4 H4 g4 => ?_⟩
              refine iteT ?_
              split at ct
              · cases ct
              · rename_i d hd'
                split at ct
                · cases ct
                · rename_i ds hr
                  cases ct
                  refine ⟨F4, e1, d, r'.grow g4, hd', fun F5 H5 v g5 iv => ?_⟩
                  have g15 := (g13.trans g4).trans g5
                  have hl5 : H5 L = some (.lst acc) := g5.hh L _ (g4.hh L _ hl3)
                  have hf5 : F5 L = none := g5.own (g4.own hf3 (by rw [hl3]; simp)) (by rw [g4.hh L _ hl3]; simp)
                  have ia5 : IsL T F5 acc done := ia.mono ((g3.ff.trans g4.ff).trans g5.ff)
                  refine ⟨acc, hl5, small_lt (by rw [ia5.length]; omega), F5, acc ++ [v], done ++ [d], ds, ⟨g15.ff, fun b o hb => ?_, fun b o hb => ?_, g15.nw⟩, upd_same, hf5, ia5.snoc iv, by simp; omega, hr, by simpa using ed⟩
                  · rw [upd_ne (ne_of_none hb hL)]
                    exact g15.hh b o hb
                  · rw [upd_ne (ne_of_none hb hf5)]
                    exact g15.fh b o hb
      · refine .inl ⟨ys (by omega), ?_⟩
        rw [List.drop_of_length_le (by omega)] at ct
        cases ct
        rw [List.append_nil] at ed
        subst ed
        exact k F2 H2 L (g1.trans g2) ⟨L, acc, rfl, hf2, hl2, ia⟩ (g1.hh.free hL)
    · cases e
  · cases e
theorem r_lc (hc : X.calm = true) (hN : X.N.Nodup) (hi : PI X tg iter (tIt (tbX X cls) B it)) (ok : BlkOk X.N X.env.scope scope own) (hv : ∀ i ∈ tt.slots, i ∈ own.map (·.2))
    (hg : ∀ (s : Shared) (H : Hp) (C : Addr) (cl : List (Str × Addr)) (fp : List Addr), PG (X.blk s H scope (compEnvC scope cl C X.env) fp) tg (gD (tbX X cls) B tt))
    (ht : ∀ (s : Shared) (H : Hp) (C : Addr) (cl : List (Str × Addr)) (fp : List Addr), PTs (X.blk s H scope (compEnvC scope cl C X.env) fp) ifs (tTt (tbX X cls) B c))
    (he : ∀ (s : Shared) (H : Hp) (C : Addr) (cl : List (Str × Addr)) (fp : List Addr), PE (X.blk s H scope (compEnvC scope cl C X.env) fp) elt (tD (tbX X cls) B f)) (hs : ∀ x, foldedSetIterable iter X.env x = pure x := by intro _; rfl) :
    PE X (.ListComp elt [⟨tg, iter, ifs, 0⟩] scope pos) (tO (tbX X cls) B (dLc (own.map (·.2)) tt it c f)) := weakE (pe_lc hc hN hi ok hg ht he hs) fun _ _ _ h => tLc_of hv h
/-- y = [..] -/
theorem r_setLc {i : Nat} {y : Str} {py spos : Pos} (hc : X.calm = true) (hN : X.N.Nodup) (hy : X.N[i]? = some y) (hyl : X.env.scope.names.lookup y = some .local)
    (hsw : swapsWith (.ListComp elt [⟨tg, iter, ifs, 0⟩] scope pos) (some (.Name y py)) spos.line X.env = pure true) (hi : PI X tg iter (tIt (tbX X cls) B it)) (ok : BlkOk X.N X.env.scope scope own) (hv : ∀ i ∈ tt.slots, i ∈ own.map (·.2))
    (hg : ∀ (s : Shared) (H : Hp) (C : Addr) (cl : List (Str × Addr)) (fp : List Addr), PG (X.blk s H scope (compEnvC scope cl C X.env) fp) tg (gD (tbX X cls) B tt))
    (ht : ∀ (s : Shared) (H : Hp) (C : Addr) (cl : List (Str × Addr)) (fp : List Addr), PTs (X.blk s H scope (compEnvC scope cl C X.env) fp) ifs (tTt (tbX X cls) B c))
    (he : ∀ (s : Shared) (H : Hp) (C : Addr) (cl : List (Str × Addr)) (fp : List Addr), PE (X.blk s H scope (compEnvC scope cl C X.env) fp) elt (tD (tbX X cls) B f)) (hs : ∀ x, foldedSetIterable iter X.env x = pure x := by intro _; rfl) :
    PS X (.Assign [.Name y py] (.ListComp elt [⟨tg, iter, ifs, 0⟩] scope pos) spos) (tS (tbX X cls) B W (dSetO i (dLc (own.map (·.2)) tt it c f))) := weakS (ps_setLc hc hN hy hyl hsw hi ok hg ht he hs) fun D σ H ⟨F, env, o, r, e, k⟩ => by
  obtain ⟨d, e1, rfl⟩ := Option.map_eq_some_iff.mp e
  refine tLc_of hv ⟨F, env, d, r, e1, fun F' H' a g1 iv hn => k F' _ H' g1.ff ((r.grow g1).setO iv (r.bh.free hn) ?_)⟩
  rintro ⟨j, d', o1, ho, h1, h2⟩
  obtain ⟨v, k1, _, k3, _⟩ := r.sl j d' o1 h1
  rw [h2] at k1; cases k1
  obtain ⟨b', o', eb, _, hb⟩ := (k3 ho).1.at
  cases eb
  rw [hn] at hb; cases hb
end

/-! ### a def by its body -/
def env0 (n : Nat) (ds : List D) : DEnv := ds.map (fun d => some (d, .fz)) ++ List.replicate (n - ds.length) none
def runD (n : Nat) (s : DS) (ds : List D) : Option D := match s (env0 n ds) with
  | some (.rt d) => some d
  | some (.nx _) => some .non
  | _ => none
theorem rel0 {T : Tb} {F H : Hp} {me : Addr} {vs : List V} {ds : List D} {N : List Str} (e : Same F H) (i : IsL T F vs ds) : Rel T ⟨F, H, me⟩ F (L2.start N vs) H (env0 N.length ds) := by
  have hl := i.length
  refine ⟨Same.refl F, Same.refl H, e, fun a x => .inl x, by unfold L2.start env0; simp [hl], fun j d o q => ?_, fun j l d d' o o' a ne ho _ q1 _ _ _ => ?_⟩
  · unfold env0 at q
    by_cases hj : j < ds.length
    · rw [List.getElem?_append_left (by simpa using hj), List.getElem?_map] at q
      obtain ⟨d0, h1, h2⟩ := Option.map_eq_some_iff.mp q
      cases h2
      obtain ⟨v, h3, h4⟩ := i.get h1
      refine ⟨v, ?_, (fun _ => h4), (fun z => absurd rfl z), fun z => by cases z⟩
      unfold L2.start
      rw [List.getElem?_append_left (by simpa [hl] using hj), List.getElem?_map, h3]; rfl
    · rw [List.getElem?_append_right (by simpa using hj), List.getElem?_replicate] at q
      split at q <;> cases q
  · unfold env0 at q1
    by_cases hj : j < ds.length
    · rw [List.getElem?_append_left (by simpa using hj), List.getElem?_map] at q1
      obtain ⟨d0, h1, h2⟩ := Option.map_eq_some_iff.mp q1
      cases h2
      exact ho rfl
    · rw [List.getElem?_append_right (by simpa using hj), List.getElem?_replicate] at q1
      split at q1 <;> cases q1
def W0 : Nat → Hp → Prop := fun _ _ => False
theorem fn_ok {P : Program} {w : World} {K : PySem.W.Frag} {mg : Str → Option Value} {base : Heap} {x qual : Str} {st : Stmt} {f : Addr} {fd : FuncData} {N ps : List Str} {k : Nat} {cls : Nat → Addr} {s : DS} (F : Fun K x qual st f fd) (S : FnScope N ps (defScope st))
    (hbody : ∀ (cdv : Value) (A : Around) (outer : List Env) (s0 : Shared) (H : Hp) (E : XK) (B : Base), Room k (A.deeper (envOfC qual (defScope st) s0.heap.objs.size f cdv)) →
      PSs (cxOf CX0 P w K mg base N qual (defScope st) f cdv A outer s0 H E).nox (defBody st) (tS ⟨P, w, K, cls⟩ B W0 s)) :
    FnOk P w K mg base CX0 (k + 1) f fd ps (spD ⟨P, w, K, cls⟩ ps.length (runD N.length s)) := by
  refine F.ok S (fun vs H Q E h => spD_len h) (fun cdv A outer s0 H vs Q E hr h => ?_)
  obtain ⟨F0, ds, d, sm, i, hl, e, k⟩ := h
  refine ⟨_, hbody cdv A outer s0 H E ⟨F0, H, 0⟩ hr, ?_⟩
  unfold runD at e
  split at e
  · rename_i d' q
    cases e
    exact ⟨F0, _, _, rel0 sm i, q, fun F' H' v fin iv => k F' H' v ⟨fin.bf, fin.bh, fin.fh, fin.nw⟩ iv⟩
  · rename_i e' q
    cases e
    exact ⟨F0, _, _, rel0 sm i, q, fun F' σ' H' _ r => k F' H' .non ⟨r.bf, r.bh, r.fh, r.nw⟩ (by simp only [Is])⟩
  · cases e
end Pd

/-! Pd: instances of own classes. -/
namespace Pd
open PySem PySem.Spec PyProof.Rows L2

/-! ### attributes -/
def lookND (f : Str) : List Str → List D → Option D
  | n :: ns, d :: ds => if f = n then some d else lookND f ns ds
  | _, _ => none
theorem look_of {T : Tb} {F : Hp} {f : Str} : ∀ {ns : List Str} {ds : List D} {gs : List (Str × V)} {d : D}, gs.map (·.1) = ns → IsL T F (gs.map (·.2)) ds → lookND f ns ds = some d → ∃ v, gs.lookup f = some v ∧ Is T F v d
  | ns, ds, [], d, h1, h2, h3 => by
    subst h1
    simp [lookND] at h3
  | ns, ds, (n, v) :: gs, d, h1, h2, h3 => by
    subst h1
    cases ds with
    | nil => simp [lookND] at h3
    | cons e ds =>
      obtain ⟨u, r, e1, h4, h5⟩ := h2.cons_inv
      simp only [List.map_cons, List.cons.injEq] at e1
      obtain ⟨rfl, rfl⟩ := e1
      simp only [List.map_cons, lookND] at h3
      by_cases q : f = n
      · rw [if_pos q] at h3
        cases h3
        subst q
        exact ⟨v, by simp [List.lookup], h4⟩
      · rw [if_neg q] at h3
        obtain ⟨w, h6, h7⟩ := look_of rfl h5 h3
        have qb : (f == n) = false := by simpa using q
        exact ⟨w, by simp [List.lookup, qb, h6], h7⟩
theorem look_none {f : Str} : ∀ {gs : List (Str × V)}, f ∉ gs.map (·.1) → gs.lookup f = none
  | [], _ => rfl
  | (n, v) :: gs, h => by
    have h1 : f ≠ n := fun z => h (by rw [z]; exact List.mem_cons_self)
    have qb : (f == n) = false := by simpa using h1
    simp only [List.lookup, qb]
    exact look_none fun z => h (List.mem_cons_of_mem _ z)
def putN (f : Str) : List Str → List Str
  | [] => [f]
  | n :: ns => if n = f then n :: ns else n :: putN f ns
def putD (f : Str) (d : D) : List Str → List D → List D
  | n :: ns, e :: ds => if n = f then d :: ds else e :: putD f d ns ds
  | _, _ => [d]
theorem put_of {T : Tb} {F : Hp} {f : Str} {v : V} {d : D} (iv : Is T F v d) : ∀ {gs : List (Str × V)} {ds : List D}, IsL T F (gs.map (·.2)) ds → (putF f v gs).map (·.1) = putN f (gs.map (·.1)) ∧ IsL T F ((putF f v gs).map (·.2)) (putD f d (gs.map (·.1)) ds)
  | [], ds, h => by
    cases ds with
    | nil => exact ⟨rfl, IsL.cons iv IsL.nil⟩
    | cons e ds => obtain ⟨_, _, q, _⟩ := h.cons_inv; cases q
  | (n, u) :: gs, ds, h => by
    cases ds with
    | nil => have := h.nil_inv; cases this
    | cons e ds =>
      obtain ⟨u', r, e1, h4, h5⟩ := h.cons_inv
      simp only [List.map_cons, List.cons.injEq] at e1
      obtain ⟨rfl, rfl⟩ := e1
      obtain ⟨h6, h7⟩ := put_of iv h5
      unfold putF
      simp only [List.map_cons, putN, putD]
      by_cases q : n = f
      · subst q
        simp only [if_true, List.map_cons]
        exact ⟨trivial, IsL.cons iv h5⟩
      · rw [if_neg q, if_neg q, if_neg q, List.map_cons, List.map_cons, h6]
        exact ⟨rfl, IsL.cons h4 h7⟩

def dFld (c : Nat) (name : Str) (f : DP) : DP := fun env => match f env with
  | some (.obj c' ns ds) => if c' = c then lookND name ns ds else none
  | _ => none
section
variable {X : Cx} {cls : Nat → Addr} {B : Base} {W : Nat → Hp → Prop} {e o a b elt tg iter : Expr} {es : List Expr} {pos p apos pos' : Pos} {f fa fb fo : DP} {fr : DPs} {s t : DS} {c i n lv : Nat} {name x mn : Str} {CX : CXT} {fA : Addr} {fd : FuncData} {ps : List Str} {dvs : List V} {dvv : List Value} {dd : List D} {m : List D → Option D}

theorem pk_obj {T : Tb} {F H : Hp} {v : V} {ns : List Str} {ds : List D} (s : Same F H) (h : Pk T F H v (.obj c ns ds)) : ∃ a dx gs, v = .ref a ∧ H a = some (.ins (T.cls c) dx gs) ∧ gs.map (·.1) = ns ∧ IsL T F (gs.map (·.2)) ds := by
  rcases h with h | h
  · simp only [Is] at h
    obtain ⟨a, dx, gs, h1, h2, h3, h4⟩ := h
    exact ⟨a, dx, gs, h1, s _ _ h2, h3, h4⟩
  · obtain ⟨a, dx, gs, h1, _, h2, h3, h4⟩ := h
    exact ⟨a, dx, gs, h1, h2, h3, h4⟩
theorem r_fld (hc : Cls X.K (cls c)) (hn : NoAttr X.K (cls c) name) (h : PE X e (tP (tbX X cls) B f)) (hb : attributeBase e name X.env (eval e X.env) = eval e X.env := by rfl) : PE X (.Attribute e name pos) (tD (tbX X cls) B (dFld c name f)) := weakE (pe_fld h hb) fun σ H Q ⟨F, env, d, r, e, k⟩ => by
  unfold dFld at e
  split at e
  · rename_i c' ns ds q
    split at e
    · rename_i ec
      subst ec
      refine ⟨F, env, _, r, q, fun F' H' v g iv => ?_⟩
      obtain ⟨a, dx, gs, rfl, h2, h3, h4⟩ := pk_obj g.fh iv
      obtain ⟨u, h5, h6⟩ := look_of h3 h4 e
      exact ⟨a, _, dx, gs, u, rfl, h2, hc, hn, h5, k F' H' u g h6⟩
    · cases e
  · cases e
/-- self.name = e, self in the slot i -/
def dSelf (i c : Nat) (name : Str) (f : DP) : DS := fun env => match env[i]? with
  | some (some (.obj c' ns ds, o)) => if o = .fz then none else if c' = c then if ns.length < 1000 then (f env).map fun d => .nx (env.set i (some (.obj c (putN name ns) (putD name d ns ds), o))) else none else none
  | _ => none
theorem r_self (hc : Cls X.K (cls c)) (hn : NoAttr X.K (cls c) name) (ho : PE X o (tVar i)) (h : PE X e (tD (tbX X cls) B f)) (hs : swapsWith e (some (.Attribute o name pos')) pos.line X.env = pure false := by rfl) :
    PS X (.Assign [.Attribute o name pos'] e pos) (tS (tbX X cls) B W (dSelf i c name f)) := weakS (ps_fld ho h hs) fun D σ H ⟨F, env, u, r, e, k⟩ => by
  unfold dSelf at e
  split at e
  · rename_i c' ns ds fl q
    split at e
    · cases e
    · rename_i hfl
      split at e
      · rename_i ec
        subst ec
        split at e
        · rename_i hl
          obtain ⟨d, e1, rfl⟩ := Option.map_eq_some_iff.mp e
          refine ⟨F, env, d, r, e1, fun F' H' v g iv => ?_⟩
          obtain ⟨v', h1, _, h3, _⟩ := (r.grow g).sl i _ _ q
          obtain ⟨ow, hB⟩ := h3 hfl
          obtain ⟨a, dx, gs, rfl, hf, hh, hns, hds⟩ := id ow
          refine ⟨_, h1, a, _, dx, gs, rfl, hh, hc, hn, by have := congrArg List.length hns; rw [List.length_map] at this; omega, ?_⟩
          obtain ⟨p1, p2⟩ := put_of (f := name) iv hds
          refine k F' σ _ g.ff ((r.grow g).change hfl q h1 ⟨a, dx, _, rfl, hf, upd_same, ?_, ?_⟩)
          · rw [p1, hns]
          · rw [← hns]; exact p2
        · cases e
      · cases e
  · cases e

/-! ### methods, called -/
def dMeth (c : Nat) (mn : Str) (n : Nat) (m : List D → Option D) (dd : List D) (fo : DP) (fr : DPs) : DP := fun env => match fo env with
  | some (.obj c' ns ds) => if c' = c ∧ mn ∉ ns then match fr env with
    | some as => if (D.obj c' ns ds :: (as ++ dd)).length = n then m (.obj c' ns ds :: (as ++ dd)) else none
    | none => none
    else none
  | _ => none
theorem tMeth_of {T : Tb} {n : Nat} {m : List D → Option D} {E : XK} (hd : ∀ F, IsL T F dvs dd) {σ : L2.St} {H : Hp} {Q : VK} (h : tD T B (dMeth c mn n m dd fo fr) σ H Q) : tMeth (T.cls c) mn (spD T n m) dvs E (tD T B fo) (tAs T B fr) σ H Q := by
  obtain ⟨F, env, d, r, e, k⟩ := h
  unfold dMeth at e
  split at e
  · rename_i c' ns ds q
    split at e
    · rename_i hcm
      obtain ⟨rfl, hmn⟩ := hcm
      split at e
      · rename_i as qa
        split at e
        · rename_i hl
          refine ⟨F, env, _, r, q, fun F1 H1 v g1 iv => ?_⟩
          have iv' := iv
          simp only [Is] at iv
          obtain ⟨a, dx, gs, rfl, h2, h3, h4⟩ := iv
          refine ⟨a, dx, gs, rfl, g1.fh _ _ h2, look_none (by rw [h3]; exact hmn), F1, env, as, r.grow g1, qa, fun F2 H2 vs g2 i => ?_⟩
          exact ⟨F2, _, d, g2.fh, IsL.cons (iv'.mono g2.ff) (i.append (hd F2)), hl, e, fun F3 H3 u g3 iu => k F3 H3 u ((g1.trans g2).trans g3) iu⟩
        · cases e
      · cases e
    · cases e
  · cases e
theorem r_meth {pl : Sem Bool} (hc : Cls X.K (cls c)) (hm : Meth X.K (cls c) mn fA) (G : FnOk X.prog X.w X.K X.mg X.base CX lv fA fd ps (spD (tbX X cls) n m)) (hr : Room lv X.A) (hb : Binds X.K fd ps dvv) (hd : Vals dvs dvv) (hdd : ∀ F, IsL (tbX X cls) F dvs dd) (hx : Passes CX X E0)
    (ho : PE X o (tD (tbX X cls) B fo)) (ha : PA X (e :: es) (tAs (tbX X cls) B fr)) (hst : starEach (e :: es) X.env = (false, eval e X.env) :: starEach es X.env := by rfl) (hpl : (backTo pos (starEach es X.env)).any (·.1) = false := by rfl)
    (ht : eval (.Call (.Attribute o mn apos) (e :: es) [] pos) X.env = (do
      let ov ← eval o X.env
      standAt apos.atName
      let (f, first) ← holding [ov] (getMethod ov mn pl)
      callWith pos f first (backTo pos (starEach (e :: es) X.env)) (backToKw pos (keywordEach [] X.env))) := by rfl) :
    PE X (.Call (.Attribute o mn apos) (e :: es) [] pos) (tD (tbX X cls) B (dMeth c mn n m dd fo fr)) := weakE (pe_meth ho hc hm G hr hb hd hx ha hst hpl ht) fun _ _ _ h => tMeth_of hdd h
theorem r_meth0 {pl : Sem Bool} (hc : Cls X.K (cls c)) (hm : Meth X.K (cls c) mn fA) (G : FnOk X.prog X.w X.K X.mg X.base CX lv fA fd ps (spD (tbX X cls) n m)) (hr : Room lv X.A) (hb : Binds X.K fd ps dvv) (hd : Vals dvs dvv) (hdd : ∀ F, IsL (tbX X cls) F dvs dd) (hx : Passes CX X E0)
    (ho : PE X o (tD (tbX X cls) B fo))
    (ht : eval (.Call (.Attribute o mn apos) [] [] pos) X.env = (do
      let ov ← eval o X.env
      standAt apos.atName
      let (f, first) ← holding [ov] (getMethod ov mn pl)
      callWith pos f first (backTo pos (starEach [] X.env)) (backToKw pos (keywordEach [] X.env))) := by rfl) :
    PE X (.Call (.Attribute o mn apos) [] [] pos) (tD (tbX X cls) B (dMeth c mn n m dd fo dNil)) := weakE (pe_meth0 ho hc hm G hr hb hd hx ht) fun σ H Q h => by
  have z := tMeth_of (E := E0) hdd h
  obtain ⟨F, env, d, r, e, k⟩ := z
  refine ⟨F, env, d, r, e, fun F1 H1 v g1 iv => ?_⟩
  obtain ⟨a, dx, gs, h1, h2, h3, F2, env2, ds, r2, e2, k2⟩ := k F1 H1 v g1 iv
  cases e2
  exact ⟨a, dx, gs, h1, h2, h3, k2 F2 H1 [] (Grow.refl r2.fh) IsL.nil⟩

/-! ### C(..) -/
/-- the promise of __init__: m the object that is made of the arguments -/
def spI (T : Tb) (c n : Nat) (m : List D → Option D) : Sp := fun vs H Q _ => ∃ F x dx ws ds d, vs = .ref x :: ws ∧ H x = some (.ins (T.cls c) dx []) ∧ F x = none ∧ Same F H ∧ IsL T F ws ds ∧ ds.length + 1 = n ∧ m ds = some d ∧
  ∀ F' H', Same F F' → (∀ a u, a ≠ x → H a = some u → H' a = some u) → Same F' H' → (∀ a, F' a ≠ none → F a ≠ none ∨ H a = none) → F' x = none → OwnC T F' H' (.ref x) d → Q .non H'
theorem spI_len {T : Tb} {vs : List V} {H : Hp} {Q : VK} {E : XK} (h : spI T c n m vs H Q E) : vs.length = n := by
  obtain ⟨F, x, dx, ws, ds, d, rfl, _, _, _, i, hl, _⟩ := h
  rw [List.length_cons, i.length, hl]
def dMake (n : Nat) (m : List D → Option D) (dd : List D) (fr : DPs) : DP := fun env => match fr env with
  | some as => if (as ++ dd).length + 1 = n then m (as ++ dd) else none
  | none => none
theorem tMake_of {T : Tb} {E : XK} (hd : ∀ F, IsL T F dvs dd) {σ : L2.St} {H : Hp} {Q : VK} (h : tO T B (dMake n m dd fr) σ H Q) : tMake (T.cls c) (spI T c n m) dvs E (tAs T B fr) σ H Q := by
  obtain ⟨F, env, d, r, e, k⟩ := h
  unfold dMake at e
  split at e
  · rename_i as q
    split at e
    · rename_i hl
      refine ⟨F, env, as, r, q, fun F1 H1 vs g1 i x dx hx hdx ne => ?_⟩
      have hF : F1 x = none := g1.fh.free hx
      have s1 : Same H1 (upd (upd H1 dx (.own x)) x (.ins (T.cls c) dx [])) := (same_upd hdx).trans (same_upd (by rw [upd_ne (Ne.symm ne)]; exact hx))
      refine ⟨F1, x, dx, _, _, d, rfl, upd_same, hF, g1.fh.trans s1, i.append (hd F1), hl, e, fun F' H' a1 a2 a3 a4 a5 a6 => ⟨rfl, ?_⟩⟩
      refine k F' H' x (g1.trans ⟨a1, fun b u hb => a2 b u (ne_of_none hb hx) (s1 b u hb), a3, fun b hb => ?_⟩) a6 (g1.hh.free hx)
      rcases a4 b hb with z | z
      · exact .inl z
      · refine .inr ?_
        exact s1.free z
    · cases e
  · cases e
theorem r_make (M : Mk X.K (cls c) fA) (G : FnOk X.prog X.w X.K X.mg X.base CX lv fA fd ps (spI (tbX X cls) c n m)) (hr : Room (lv + 1) X.A) (hg : Gl X x) (hm : X.mg x = some (.ref (cls c))) (hb : Binds X.K fd ps dvv) (hd : Vals dvs dvv) (hdd : ∀ F, IsL (tbX X cls) F dvs dd) (hx : Passes CX X E0)
    (ha : PA X (e :: es) (tAs (tbX X cls) B fr)) (hdb : (x == ("__debug__" : Str)) = false := by decide) (he : starEach (e :: es) X.env = (false, eval e X.env) :: starEach es X.env := by rfl) (hpl : (backTo pos (starEach es X.env)).any (·.1) = false := by rfl) :
    PE X (.Call (.Name x p) (e :: es) [] pos) (tO (tbX X cls) B (dMake n m dd fr)) := weakE (pe_make M G hr hg hm hb hd hx ha hdb he hpl) fun _ _ _ h => tMake_of hdd h
/-- __init__ by its body -/
def runI (c n : Nat) (s : DS) (ds : List D) : Option D := match s (some (.obj c [] [], .me) :: env0 (n - 1) ds) with
  | some (.nx (some (d, .me) :: _)) => some d
  | _ => none
theorem fnI_ok {P : Program} {w : World} {K : PySem.W.Frag} {mg : Str → Option Value} {base : Heap} {x qual : Str} {params : Arguments} {body : List Stmt} {scope : Scope} {dvs : List V} {kws : List (Str × V)} {f : Addr} {fd : FuncData} {N ps : List Str} {k c : Nat} {cls : Nat → Addr} {s : DS} (F : FunD K x qual params body scope dvs kws f fd) (S : FnScope N ps scope) (hps : 0 < ps.length)
    (hbody : ∀ (cdv : Value) (A : Around) (outer : List Env) (s0 : Shared) (H : Hp) (E : XK) (B : Base), Room k (A.deeper (envOfC qual scope s0.heap.objs.size f cdv)) →
      PSs (cxOf CX0 P w K mg base N qual scope f cdv A outer s0 H E).nox body (tS ⟨P, w, K, cls⟩ B W0 s)) :
    FnOk P w K mg base CX0 (k + 1) f fd ps (spI ⟨P, w, K, cls⟩ c ps.length (runI c N.length s)) := by
  have hpl : ps.length ≤ N.length := by have := congrArg List.length S.pre; rw [List.length_take] at this; omega
  refine F.ok S (fun vs H Q E h => spI_len h) (fun cdv A outer s0 H vs Q E hr h => ?_)
  obtain ⟨F0, x, dx, ws, ds, d, rfl, hx, hF, sm, i, hl, e, k⟩ := h
  let B : Base := ⟨F0, fun b => if b = x then none else H b, x⟩
  refine ⟨_, PSs.nox (hbody cdv A outer s0 H E B hr), ?_⟩
  have hBx : B.H x = none := if_pos rfl
  have sB : Same B.H H := fun b u q => by
    by_cases z : b = x
    · subst z; rw [hBx] at q; cases q
    · have q' : (if b = x then none else H b) = some u := q
      rw [if_neg z] at q'; exact q'
  have hlen := i.length
  have est : L2.start N (V.ref x :: ws) = some (.ref x) :: (ws.map some ++ List.replicate (N.length - 1 - ws.length) none) := by
    unfold L2.start
    rw [List.map_cons, List.length_cons, show N.length - (ws.length + 1) = N.length - 1 - ws.length from by omega]
    rfl
  rw [est]
  unfold runI at e
  split at e
  · rename_i d' rest q
    cases e
    refine ⟨F0, _, _, ⟨Same.refl F0, sB, sm, fun a z => .inl z, ?_, fun j d2 o q2 => ?_, fun j l d2 d3 o1 o2 a ne n1 n2 q1 q2 h1 h2 => ?_⟩, q, fun F' σ' H' s1 r => ?_⟩
    · simp [env0, hlen]
    · cases j with
      | zero =>
        simp only [List.getElem?_cons_zero, Option.some.injEq, Prod.mk.injEq] at q2
        obtain ⟨rfl, rfl⟩ := q2
        refine ⟨.ref x, rfl, (fun z => by cases z), (fun _ => ⟨⟨x, dx, [], rfl, hF, hx, rfl, IsL.nil⟩, fun a z => by cases z; exact hBx⟩), fun _ => rfl⟩
      | succ j =>
        simp only [List.getElem?_cons_succ] at q2 ⊢
        unfold env0 at q2
        by_cases hj : j < ds.length
        · rw [List.getElem?_append_left (by simpa using hj), List.getElem?_map] at q2
          obtain ⟨d0, h1, h2⟩ := Option.map_eq_some_iff.mp q2
          cases h2
          obtain ⟨v, h3, h4⟩ := i.get h1
          exact ⟨v, by rw [List.getElem?_append_left (by simpa [hlen] using hj), List.getElem?_map, h3]; rfl, (fun _ => h4), (fun z => absurd rfl z), fun z => by cases z⟩
        · rw [List.getElem?_append_right (by simpa using hj), List.getElem?_replicate] at q2
          split at q2 <;> cases q2
    · have only : ∀ {j : Nat} {d : D} {o : Fl}, o ≠ .fz → (some (D.obj c [] [], Fl.me) :: env0 (N.length - 1) ds)[j]? = some (some (d, o)) → j = 0 := fun {j d o} ho q => by
        cases j with
        | zero => rfl
        | succ j =>
          simp only [List.getElem?_cons_succ] at q
          unfold env0 at q
          by_cases hj : j < ds.length
          · rw [List.getElem?_append_left (by simpa using hj), List.getElem?_map] at q
            obtain ⟨d0, h1, h2⟩ := Option.map_eq_some_iff.mp q
            cases h2
            exact absurd rfl ho
          · rw [List.getElem?_append_right (by simpa using hj), List.getElem?_replicate] at q
            split at q <;> cases q
      exact ne ((only n1 q1).trans (only n2 q2).symm)
    · obtain ⟨v, h1, _, h3, h4⟩ := r.sl 0 d .me rfl
      obtain ⟨ow, _⟩ := h3 (by decide)
      have hv := h4 rfl
      have hv' : v = .ref x := hv
      subst hv'
      obtain ⟨a, u, ea, hf, _⟩ := ow.at
      cases ea
      refine k F' H' s1 (fun a u na ha => r.bh a u ?_) r.fh (fun a z => ?_) hf ow
      · show (if a = x then none else H a) = some u
        rw [if_neg na]; exact ha
      · rcases r.nw a z with w | w
        · exact .inl w
        · by_cases na : a = x
          · subst na; exact absurd hf z
          · have z' : (if a = x then none else H a) = none := w
            rw [if_neg na] at z'
            exact .inr z'
  · cases e
end
end Pd

/-! Pd: dicts whose keys are tuples of texts and tuples. -/
namespace Pd
open PySem PySem.Spec PyProof.Rows L2

section
variable {X : Cx} {cls : Nat → Addr} {pins : List (Addr × Obj)} {σ : L2.St} {H F : Hp} {s : Shared}
mutual
/-- data that is a key, seen in the model's heap -/
theorem nk_is (I : Inv X pins σ H s) (sm : Same F H) : ∀ (d : D) {k : NestedKey} {v : V} {u : Value}, Is (tbX X cls) F v d → nkey d = some k → L2.RelV v u → NestedIs s.heap k u
  | .int i, k, v, u, h, e, r => by
    simp only [Is] at h; simp only [nkey] at e
    subst h; cases e
    obtain ⟨t, rfl⟩ := r
    exact .int i t
  | .str i, k, v, u, h, e, r => by
    simp only [Is] at h; simp only [nkey] at e
    subst h; cases e
    obtain ⟨t, rfl⟩ := r
    exact .text i t
  | .tup xs, k, v, u, h, e, r => by
    simp only [Is] at h
    rw [nkey] at e
    obtain ⟨a, vs, rfl, h1, h2⟩ := h
    obtain ⟨ks, e1, rfl⟩ := Option.map_eq_some_iff.mp e
    obtain ⟨its, rv, ⟨o, ho, hc, n, hd⟩, _⟩ := I.tuple (sqT_mono sm h1)
    obtain rfl : u = Value.ref a := r
    exact .tup ho hc hd (by simpa using nks_is I sm xs h2 e1 rv)
  | .non, k, v, u, h, e, r => by rw [nkey] at e; cases e
  | .bl _, k, v, u, h, e, r => by rw [nkey] at e; cases e
  | .lst _, k, v, u, h, e, r => by rw [nkey] at e; cases e
  | .dic _ _, k, v, u, h, e, r => by rw [nkey] at e; cases e
  | .dik _ _, k, v, u, h, e, r => by rw [nkey] at e; cases e
  | .obj _ _ _, k, v, u, h, e, r => by rw [nkey] at e; cases e
theorem nks_is (I : Inv X pins σ H s) (sm : Same F H) : ∀ (ds : List D) {ks : List NestedKey} {vs : List V} {us : List Value}, IsL (tbX X cls) F vs ds → nkeys ds = some ks → Vals vs us → NestedAll s.heap ks us
  | [], ks, vs, us, h, e, r => by
    rw [nkeys] at e; cases e
    rw [h.nil_inv] at r; cases r
    exact .nil
  | d :: ds, ks, vs, us, h, e, r => by
    obtain ⟨v, vr, rfl, h1, h2⟩ := h.cons_inv
    rw [nkeys] at e
    split at e
    · rename_i k0 k1 e1 e2
      cases e
      cases r with
      | cons r1 r2 => exact .cons (nk_is I sm d h1 e1 r1) (nks_is I sm ds h2 e2 r2)
    · cases e
end
end

/-! ### tables by keys -/
/-- a tuple that is a key -/
def tkey : D → Option NestedKey
  | .tup xs => match nkey (.tup xs) with
    | some k => if k.depth ≤ 8 then some k else none
    | none => none
  | _ => none
theorem tkey_some {d : D} {k : NestedKey} (h : tkey d = some k) : nkey d = some k ∧ k.depth ≤ 8 ∧ ∃ xs, d = .tup xs := by
  unfold tkey at h
  split at h
  · rename_i xs
    split at h
    · rename_i k' e
      split at h
      · rename_i hd
        cases h
        exact ⟨e, hd, xs, rfl⟩
      · cases h
    · cases h
  · cases h
def getK (k : NestedKey) : List D → List D → Option D
  | x :: ks, v :: vs => if nkey x = some k then some v else getK k ks vs
  | _, _ => none
def putKs (k : NestedKey) (d : D) : List D → List D
  | [] => [d]
  | x :: ks => if nkey x = some k then x :: ks else x :: putKs k d ks
def putVs (k : NestedKey) (d : D) : List D → List D → List D
  | x :: ks, v :: vs => if nkey x = some k then d :: vs else v :: putVs k d ks vs
  | _, _ => [d]
def putE (k : NestedKey) (b : Addr) (v : V) : List NE → List NE
  | [] => [(k, b, v)]
  | e :: es => if e.1 = k then (e.1, e.2.1, v) :: es else e :: putE k b v es
section
variable {T : Tb} {F : Hp} {k : NestedKey}
theorem NEs.keys {es : List NE} {xs : List (NestedKey × Addr × Value)} (h : NEs es xs) : es.map (·.1) = xs.map (·.1) := by
  unfold NEs at h
  induction h with
  | nil => rfl
  | cons a b c => simp [a.1, c]
theorem putE_of {b : Addr} {v : V} {u : Value} (rv : L2.RelV v u) : ∀ {es : List NE} {xs : List (NestedKey × Addr × Value)}, NEs es xs → (xs.map (·.1)).Nodup → NEs (putE k b v es) (storedH xs k b u)
  | [], _, .nil, _ => .cons ⟨rfl, rfl, rv⟩ .nil
  | e :: es, x :: xs, .cons h t, nd => by
    rw [List.map_cons, List.nodup_cons] at nd
    obtain ⟨n1, n2⟩ := nd
    unfold putE
    by_cases q : x.1 = k
    · have qe : e.1 = k := h.1.trans q
      rw [if_pos qe]
      have at0 : atKey (x :: xs) k = some x.2 := by simp [atKey, q]
      rw [storedH_old at0, List.map_cons]
      have keep := map_putAt_of_not_mem xs k u (by rw [← q]; exact n1)
      rw [keep]
      unfold putAt
      rw [if_pos q]
      exact .cons ⟨h.1, h.2.1, rv⟩ t
    · have qe : ¬ e.1 = k := fun z => q (h.1.symm.trans z)
      rw [if_neg qe]
      have ih := putE_of (b := b) rv t n2
      have at0 : atKey (x :: xs) k = atKey xs k := by simp [atKey, q]
      cases z : atKey xs k with
      | none =>
        rw [storedH_new z] at ih
        rw [storedH_new (at0.trans z)]
        exact .cons h ih
      | some p =>
        rw [storedH_old z] at ih
        rw [storedH_old (at0.trans z), List.map_cons]
        unfold putAt at ih ⊢
        rw [if_neg q]
        exact .cons h ih
theorem putE_len {b : Addr} {v : V} : ∀ es : List NE, (putE k b v es).length ≤ es.length + 1
  | [] => Nat.le_refl _
  | e :: es => by
    unfold putE
    split
    · simp
    · have := putE_len (b := b) (v := v) es
      simp only [List.length_cons]; omega
theorem putE_depth {b : Addr} {v : V} (hk : k.depth ≤ 8) : ∀ {es : List NE}, (∀ e ∈ es, e.1.depth ≤ 8) → ∀ e ∈ putE k b v es, e.1.depth ≤ 8
  | [], _, e, h => by
    simp only [putE, List.mem_singleton] at h
    subst h; exact hk
  | x :: es, hd, e, h => by
    unfold putE at h
    split at h
    · rcases List.mem_cons.mp h with q | q
      · subst q; exact hd x List.mem_cons_self
      · exact hd e (List.mem_cons_of_mem _ q)
    · rcases List.mem_cons.mp h with q | q
      · subst q; exact hd _ List.mem_cons_self
      · exact putE_depth hk (fun y hy => hd y (List.mem_cons_of_mem _ hy)) e q
theorem putE_is {b : Addr} {v : V} {dk dv : D} (hk : nkey dk = some k) (ik : Is T F (.ref b) dk) (iv : Is T F v dv) : ∀ {es : List NE} {ks ds : List D}, es.map (fun e => some e.1) = ks.map nkey →
    IsL T F (es.map fun e => .ref e.2.1) ks → IsL T F (es.map fun e => e.2.2) ds →
    (putE k b v es).map (fun e => some e.1) = (putKs k dk ks).map nkey ∧ IsL T F ((putE k b v es).map fun e => .ref e.2.1) (putKs k dk ks) ∧ IsL T F ((putE k b v es).map fun e => e.2.2) (putVs k dv ks ds)
  | [], ks, ds, e, h1, h2 => by
    cases ks with
    | cons _ _ => cases e
    | nil => exact ⟨by simp [putE, putKs, hk], IsL.cons ik IsL.nil, by cases ds <;> exact IsL.cons iv IsL.nil⟩
  | x :: es, ks, ds, e, h1, h2 => by
    cases ks with
    | nil => cases e
    | cons kd ks =>
      cases ds with
      | nil => cases h2.nil_inv
      | cons d ds =>
        simp only [List.map_cons, List.cons.injEq] at e
        obtain ⟨e1, e2⟩ := e
        obtain ⟨_, _, q1, i1, i2⟩ := h1.cons_inv
        obtain ⟨_, _, q2, j1, j2⟩ := h2.cons_inv
        rw [List.map_cons] at q1 q2
        cases q1; cases q2
        unfold putE putKs putVs
        by_cases q : x.1 = k
        · have z : nkey kd = some k := by rw [← e1, q]
          rw [if_pos q, if_pos z, if_pos z]
          exact ⟨by simp [e1, e2], IsL.cons i1 i2, IsL.cons iv j2⟩
        · have z : ¬ nkey kd = some k := fun w => q (by rw [w] at e1; exact Option.some.inj e1)
          rw [if_neg q, if_neg z, if_neg z]
          obtain ⟨a1, a2, a3⟩ := putE_is hk ik iv e2 i2 j2
          exact ⟨by simp [e1, a1], IsL.cons i1 a2, IsL.cons j1 a3⟩
theorem getK_of : ∀ {es : List NE} {xs : List (NestedKey × Addr × Value)} {ks ds : List D}, NEs es xs → es.map (fun e => some e.1) = ks.map nkey → IsL T F (es.map fun e => e.2.2) ds →
    (∀ d, getK k ks ds = some d → ∃ p v, atKey xs k = some p ∧ L2.RelV v p.2 ∧ Is T F v d) ∧ (getK k ks ds = none → atKey xs k = none)
  | [], _, ks, ds, .nil, e, h => by
    cases ks with
    | cons _ _ => cases e
    | nil => exact ⟨fun d q => by simp [getK] at q, fun _ => rfl⟩
  | x :: es, y :: xs, ks, ds, .cons r t, e, h => by
    cases ks with
    | nil => cases e
    | cons kd ks =>
      cases ds with
      | nil => cases h.nil_inv
      | cons d ds =>
        simp only [List.map_cons, List.cons.injEq] at e
        obtain ⟨e1, e2⟩ := e
        obtain ⟨_, _, q2, j1, j2⟩ := h.cons_inv
        rw [List.map_cons] at q2
        cases q2
        unfold getK
        by_cases q : y.1 = k
        · have z : nkey kd = some k := by rw [← e1, r.1, q]
          rw [if_pos z]
          exact ⟨fun d' w => by cases w; exact ⟨y.2, x.2.2, by simp [atKey, q], r.2.2, j1⟩, fun w => by cases w⟩
        · have z : ¬ nkey kd = some k := fun w => q (by rw [w] at e1; rw [← r.1]; exact Option.some.inj e1)
          rw [if_neg z]
          have at0 : atKey (y :: xs) k = atKey xs k := by simp [atKey, q]
          rw [at0]
          exact getK_of t e2 j2
end
end Pd

/-! Pd: dicts with tuple keys: new, [], in, stored, get. -/
namespace Pd
open PySem PySem.Spec PyProof.Rows L2

section
variable {X : Cx} {cls : Nat → Addr} {pins : List (Addr × Obj)} {σ : L2.St} {H F : Hp} {s : Shared} {a : Addr} {es : List NE} {ks ds : List D} {A : Around} {E : Value → Shared → Prop} {k : NestedKey} {dk dv : D}
/-- the dict in the model's heap -/
theorem nd_at (I : Inv X pins σ H s) (sm : Same F H) (h : H a = some (ND (tbX X cls) a es)) (e : es.map (fun e => some e.1) = ks.map nkey) (i : IsL (tbX X cls) F (es.map fun e => .ref e.2.1) ks) :
    es.length ≤ sizeLine ∧ (a == sysModules) = false ∧ (∀ e ∈ es, e.1.depth ≤ 8) ∧ ∃ xs, NEs es xs ∧ s.heap.DictOfH (nestedKind X.prog X.w) a xs := by
  obtain ⟨⟨z, hs, hd, xs, r, o, en, ep, h1, h2, h3, h4, h5⟩, -⟩ := (show ObjOk X.prog X.w H s.heap a (ND (tbX X cls) a es) from I.hok a _ h)
  refine ⟨z, hs, hd, xs, r, o, en, ep, h1, h2, h3, h4, ?_, h5⟩
  clear h h1 h2 h3 h4 h5 z
  unfold NEs at r
  induction r generalizing ks with
  | nil => intro x hx; cases hx
  | @cons p q ps qs r1 r2 ih =>
    intro x hx
    cases ks with
    | nil => cases e
    | cons kd ks =>
      simp only [List.map_cons, List.cons.injEq] at e
      obtain ⟨e1, e2⟩ := e
      obtain ⟨_, _, q1, i1, i2⟩ := i.cons_inv
      rw [List.map_cons] at q1
      cases q1
      rcases List.mem_cons.mp hx with w | w
      · subst w
        have n := nk_is I sm kd (k := p.1) (u := .ref p.2.1) i1 e1.symm rfl
        rw [← r1.1, ← r1.2.1]
        exact ⟨n, hd p List.mem_cons_self⟩
      · exact ih e2 i2 (fun y hy => hd y (List.mem_cons_of_mem _ hy)) x w
/-- a key in the model's heap -/
theorem tk_at (I : Inv X pins σ H s) (sm : Same F H) {v : V} {u : Value} (h : Is (tbX X cls) F v dk) (e : tkey dk = some k) (r : L2.RelV v u) : ∃ b, v = .ref b ∧ u = .ref b ∧ (nestedKind X.prog X.w).is s.heap k b := by
  obtain ⟨e1, e2, xs, rfl⟩ := tkey_some e
  have h' := h
  simp only [Is] at h
  obtain ⟨b, vs, rfl, _, _⟩ := h
  obtain rfl : u = Value.ref b := r
  exact ⟨b, rfl, rfl, nk_is I sm _ h' e1 rfl, e2⟩
/-- what may be known of a dict that is read: at its address, its keys, its values -/
theorem pk_dic {T : Tb} {v : V} (sm : Same F H) (h : Pk T F H v (.dic ks ds)) : ∃ a es, v = .ref a ∧ H a = some (ND T a es) ∧ es.map (fun e => some e.1) = ks.map nkey ∧ IsL T F (es.map fun e => .ref e.2.1) ks ∧ IsL T F (es.map fun e => e.2.2) ds := by
  rcases h with h | h
  · simp only [Is] at h
    obtain ⟨a, es, e, h1, h2, h3, h4⟩ := h
    exact ⟨a, es, e, sm _ _ h1, h2, h3, h4⟩
  · obtain ⟨a, es, e, _, h1, h2, h3, h4⟩ := h
    exact ⟨a, es, e, h1, h2, h3, h4⟩
theorem Pk.grow {T : Tb} {F' H' : Hp} {v : V} {d : D} (h : Pk T F H v d) (g : Grow F H F' H') : Pk T F' H' v d := by
  rcases h with h | h
  · exact .inl (h.mono g.ff)
  · exact .inr (h.grow g)
theorem nd_type (I : Inv X pins σ H s) (h : H a = some (ND (tbX X cls) a es)) : s.TypeIs (.ref a) "dict" ∧ ∀ b, Value.ref a = .ref b → ∃ ob, s.heap.get? b = some ob ∧ ob.dict = none := by
  obtain ⟨⟨z, hs, hd, xs, r, o, en, ep, h1, h2, h3, h4, h5⟩, -⟩ := (show ObjOk X.prog X.w H s.heap a (ND (tbX X cls) a es) from I.hok a _ h)
  exact ⟨⟨o, h1, h2.1⟩, fun b q => by cases q; exact ⟨o, h1, h2.2.1⟩⟩
theorem nd_room (hu : A.units + 64 < cLine) : (nestedKind X.prog X.w).room A.in1 := by
  show A.units + 1 + 8 < cLine
  omega
theorem nd_room0 (hu : A.units + 64 < cLine) : (nestedKind X.prog X.w).room A := by
  show A.units + 8 < cLine
  omega
/-- d[k] = v in the abstract heap -/
theorem nd_put (I : Inv X pins σ H s) (h : H a = some (ND (tbX X cls) a es)) (hl : es.length < sizeLine) {xs : List (NestedKey × Addr × Value)} (rx : NEs es xs) {b : Addr} {v : V} {u : Value} (hk : k.depth ≤ 8) (rv : L2.RelV v u) (nd : (xs.map (·.1)).Nodup)
    (hs : (a == sysModules) = false) (hd : ∀ e ∈ es, e.1.depth ≤ 8) {h' : Heap} {t' : Nat} (dd : h'.DictOfH (nestedKind X.prog X.w) a (storedH xs k b u)) (sb : Heap.SameBut a s.heap h') :
    Inv X pins σ (upd H a (ND (tbX X cls) a (putE k b v es))) { s with heap := h', toks := t' } := by
  obtain ⟨o, en, ep, h1, h2, h3, h4, _, h5⟩ := dd
  refine d_write I (by rw [h]; exact True.intro) sb ⟨o, h1⟩ ⟨⟨?_, hs, putE_depth hk hd, _, putE_of rv rx nd, o, en, ep, h1, h2, h3, h4, h5⟩, ⟨o, h1⟩, ?_⟩
  · have := putE_len (k := k) (b := b) (v := v) es
    omega
  · rintro g1 g2 ⟨c1, c2, c3, ys, c4, o', en', ep', c5, c6⟩ same
    exact ⟨c1, c2, c3, ys, c4, o', en', ep', same _ c5, c6⟩
theorem nd_new (I : Inv X pins σ H s) : Inv X pins σ (upd H s.heap.objs.size (ND (tbX X cls) s.heap.objs.size [])) { s with heap := s.heap.push { cls := .type "dict", data := .dict #[] } } := by
  refine I.laid (t' := s.toks) (fun _ _ q => Heap.get?_push_of_some _ q) (Nat.le_refl _) ⟨⟨Nat.zero_le _, beq_eq_false_iff_ne.mpr (Ne.symm (Nat.ne_of_lt I.big)), (fun e h => by cases h), [], .nil, ?_⟩, ⟨_, Heap.get?_push_size _ rfl⟩, ?_⟩
  · exact ⟨_, #[], 0, Heap.get?_push_size _ rfl, ⟨rfl, rfl, rfl⟩, rfl, rfl, List.nodup_nil⟩
  · rintro g1 g2 ⟨c1, c2, c3, ys, c4, o', en', ep', c5, c6⟩ same
    exact ⟨c1, c2, c3, ys, c4, o', en', ep', same _ c5, c6⟩
end

def dDGet (fo fi : DP) : DP := fun env => match fo env with
  | some (.dic ks ds) => match fi env with
    | some dk => match tkey dk with
      | some k => getK k ks ds
      | none => none
    | none => none
  | _ => none
def dDIn (neg : Bool) (fi fo : DP) : DP := fun env => match fi env with
  | some dk => match fo env with
    | some (.dic ks ds) => match tkey dk with
      | some k => some (.bl (xor neg (getK k ks ds).isSome))
      | none => none
    | _ => none
  | none => none
def dDGetOr (fo fi fx : DP) : DP := fun env => match fo env with
  | some (.dic ks ds) => match fi env with
    | some dk => match fx env with
      | some x => match tkey dk with
        | some k => some ((getK k ks ds).getD x)
        | none => none
      | none => none
    | none => none
  | _ => none
/-- slot[fi] = fv -/
def dDPut (i : Nat) (fi fv : DP) : DS := fun env => match fv env with
  | some dv => match fi env with
    | some dk => match env[i]? with
      | some (some (.dic ks ds, o)) => if o = .fz then none else match tkey dk with
        | some k => if ks.length < smallL then some (.nx (env.set i (some (.dic (putKs k dk ks) (putVs k dv ks ds), o)))) else none
        | none => none
      | _ => none
    | none => none
  | none => none
section
variable {X : Cx} {cls : Nat → Addr} {B : Base} {W : Nat → Hp → Prop} {e o i value x : Expr} {pos pos' apos cpos : Pos} {f fo fi fx fv : DP} {j : Nat}
theorem r_dnew : PE X (.Dict [] [] pos) (tO (tbX X cls) B (dC (.dic [] []))) := ⟨fun pins s σ H Q I h => by
  obtain ⟨F, env, d, r, e, k⟩ := h
  cases e
  refine wpAny_Dict_empty ⟨.ref s.heap.objs.size, _, nd_new (cls := cls) I, rfl, ?_⟩
  have hn : H s.heap.objs.size = none := I.hok.fresh (Nat.le_refl _)
  exact k F _ _ (Grow.side r.fh hn) ⟨_, [], rfl, r.fh.free hn, upd_same, rfl, IsL.nil, IsL.nil⟩ hn⟩
theorem r_dget (hu : X.A.units + 64 < cLine) (ho : PE X o (tP (tbX X cls) B fo)) (hi : PE X i (tD (tbX X cls) B fi)) (hs : NoSl i) : PE X (.Subscript o i pos) (tD (tbX X cls) B (dDGet fo fi)) := ⟨fun pins s σ H Q I h => by
  obtain ⟨F, env, d, r, e, k⟩ := h
  unfold dDGet at e
  split at e
  · rename_i ks ds q
    split at e
    · rename_i dk q2
      split at e
      · rename_i ky q3
        refine subD_of PySem.F.slot_dict_getitem.lookup hs (thn (ho.run pins s σ H (fun v H1 => ∃ F1, Grow F H F1 H1 ∧ Pk (tbX X cls) F1 H1 v (.dic ks ds)) I ⟨F, env, _, r, q, fun F' H' v g p => ⟨F', g, p⟩⟩) fun u s1 ⟨v, H1, I1, rv, F1, g1, p1⟩ => ?_)
        refine thn (hi.run pins s1 σ H1 (fun y H2 => ∃ F2, Grow F1 H1 F2 H2 ∧ Is (tbX X cls) F2 y dk) I1 ⟨F1, env, _, r.grow g1, q2, fun F' H' y g p => ⟨F', g, p⟩⟩) fun iv s2 ⟨y, H2, I2, ry, F2, g2, p2⟩ => ?_
        obtain ⟨a, es, rfl, ha, hk, i1, i2⟩ := pk_dic g2.fh (p1.grow g2)
        obtain rfl : u = Value.ref a := rv
        obtain ⟨z, hsm, hd, xs, rx, dd⟩ := nd_at I2 g2.fh ha hk i1
        obtain ⟨b, rfl, rfl, kb⟩ := tk_at I2 g2.fh p2 q3 ry
        obtain ⟨p, w, hp, rw', iw⟩ := (getK_of rx hk i2).1 d e
        exact ⟨dd.typeIs, wpAny_getItem_heap (nd_room hu) kb dd hp ⟨w, H2, I2.tok _, rw', k F2 H2 w (g1.trans g2) iw⟩⟩
      · cases e
    · cases e
  · cases e⟩
theorem pc_dcore {neg : Bool} {op : CmpOp} (hop : op = if neg then .NotIn else .In) (hu : X.A.units + 64 < cLine) (hi : PE X i (tD (tbX X cls) B fi)) (ho : PE X o (tP (tbX X cls) B fo)) : PC X op i o (tD (tbX X cls) B (dDIn neg fi fo)) := ⟨fun pins s σ H Q I h => by
  obtain ⟨F, env, d, r, e, k⟩ := h
  unfold dDIn at e
  split at e
  · rename_i dk q2
    split at e
    · rename_i ks ds q
      split at e
      · rename_i ky q3
        cases e
        refine thn (hi.run pins s σ H (fun y H2 => ∃ F2, Grow F H F2 H2 ∧ Is (tbX X cls) F2 y dk) I ⟨F, env, _, r, q2, fun F' H' y g p => ⟨F', g, p⟩⟩) fun iv s1 ⟨y, H1, I1, ry, F1, g1, p1⟩ => ?_
        refine thn (ho.run pins s1 σ H1 (fun v H2 => ∃ F2, Grow F1 H1 F2 H2 ∧ Pk (tbX X cls) F2 H2 v (.dic ks ds)) I1 ⟨F1, env, _, r.grow g1, q, fun F' H' v g p => ⟨F', g, p⟩⟩) fun u s2 ⟨v, H2, I2, rv, F2, g2, p2⟩ => ?_
        obtain ⟨a, es, rfl, ha, hk, i1, i2⟩ := pk_dic g2.fh p2
        obtain rfl : u = Value.ref a := rv
        obtain ⟨z, hsm, hd, xs, rx, dd⟩ := nd_at I2 g2.fh ha hk i1
        obtain ⟨b, rfl, rfl, kb⟩ := tk_at I2 g2.fh (p1.mono g2.ff) q3 ry
        have same : (atKey xs ky).isSome = (getK ky ks ds).isSome := by
          cases w : getK ky ks ds with
          | none => rw [(getK_of rx hk i2).2 w]; rfl
          | some d' =>
            obtain ⟨p, _, hp, _⟩ := (getK_of rx hk i2).1 d' w
            rw [hp]; rfl
        have fin : ∀ s', Inv X pins σ H2 s' → EP X pins σ Q (.bool (xor neg (atKey xs ky).isSome)) s' := fun s' I' =>
          ⟨.bl _, H2, I', rfl, k F2 H2 _ (g1.trans g2) (by rw [same]; simp only [Is])⟩
        cases neg with
        | false =>
          have hop' : op = .In := by simpa using hop
          subst hop'
          refine wpAny_in_heap (nd_room hu) kb hsm dd ?_
          exact (fin _ (I2.tok _)) |> fun z => by simpa only [Bool.false_xor] using z
        | true =>
          have hop' : op = .NotIn := by simpa using hop
          subst hop'
          show wpAny _ _ (do return Value.bool (!(← contains (Value.ref a) (Value.ref b)))) _ _ _
          refine wpAny_bind (wpAny_contains_heap (nd_room hu) kb hsm dd (wpAny_pure ?_))
          exact (fin _ (I2.tok _)) |> fun z => by simpa only [Bool.true_xor] using z
      · cases e
    · cases e
  · cases e⟩
theorem pc_din' (hu : X.A.units + 64 < cLine) (hi : PE X i (tD (tbX X cls) B fi)) (ho : PE X o (tP (tbX X cls) B fo)) : PC X .In i o (tD (tbX X cls) B (dDIn false fi fo)) := pc_dcore rfl hu hi ho
theorem pc_dni (hu : X.A.units + 64 < cLine) (hi : PE X i (tD (tbX X cls) B fi)) (ho : PE X o (tP (tbX X cls) B fo)) : PC X .NotIn i o (tD (tbX X cls) B (dDIn true fi fo)) := pc_dcore rfl hu hi ho
end
end Pd

/-! Pd: dicts with tuple keys: stored, get with a default, comprehensions. -/
namespace Pd
open PySem PySem.Spec PyProof.Rows L2

section
variable {X : Cx} {cls : Nat → Addr} {B : Base} {W : Nat → Hp → Prop} {a b e o i value x : Expr} {pos pos' apos cpos : Pos} {f fo fi fx fv : DP} {j : Nat} {op : CmpOp}
theorem runE {pins : List (Addr × Obj)} {s : Shared} {σ : L2.St} {H F : Hp} {env : DEnv} {d : D} (p : PE X e (tD (tbX X cls) B f)) (I : Inv X pins σ H s) (r : Rel (tbX X cls) B F σ H env) (q : f env = some d) :
    wpAny (model X.prog X.w) X.A (eval e X.env) (fun u s' => ∃ v H' F', Inv X pins σ H' s' ∧ L2.RelV v u ∧ Grow F H F' H' ∧ Is (tbX X cls) F' v d) X.xe s :=
  thn (p.run pins s σ H (fun v H1 => ∃ F1, Grow F H F1 H1 ∧ Is (tbX X cls) F1 v d) I ⟨F, env, d, r, q, fun F' H' v g p => ⟨F', g, p⟩⟩) fun u s' ⟨v, H', I', rv, F', g, i⟩ => ⟨v, H', F', I', rv, g, i⟩
theorem runP {pins : List (Addr × Obj)} {s : Shared} {σ : L2.St} {H F : Hp} {env : DEnv} {d : D} (p : PE X e (tP (tbX X cls) B f)) (I : Inv X pins σ H s) (r : Rel (tbX X cls) B F σ H env) (q : f env = some d) :
    wpAny (model X.prog X.w) X.A (eval e X.env) (fun u s' => ∃ v H' F', Inv X pins σ H' s' ∧ L2.RelV v u ∧ Grow F H F' H' ∧ Pk (tbX X cls) F' H' v d) X.xe s :=
  thn (p.run pins s σ H (fun v H1 => ∃ F1, Grow F H F1 H1 ∧ Pk (tbX X cls) F1 H1 v d) I ⟨F, env, d, r, q, fun F' H' v g p => ⟨F', g, p⟩⟩) fun u s' ⟨v, H', I', rv, F', g, i⟩ => ⟨v, H', F', I', rv, g, i⟩
theorem r_pc (h : PC X op a b (tD (tbX X cls) B f)) (h1 : behindInMarks op b = false := by first | exact nobehind _ (by decide) (by decide) | rfl) : PE X (.Compare a [op] [b] pos) (tD (tbX X cls) B f) := pe_cmp h h1
theorem r_tpc (h : PC X op a b (tD (tbX X cls) B f)) (h1 : behindInMarks op b = false := by first | exact nobehind _ (by decide) (by decide) | rfl) : PT X (.Compare a [op] [b] pos) (tTt (tbX X cls) B (dB f)) := weakT (pt_cmp h h1) fun σ H Q ⟨F, env, c, rl, e, k⟩ =>
  ⟨F, env, .bl c, rl, dB_some e, fun F' H' v gr i => ⟨c, by simpa only [Is] using i, k F' H' gr⟩⟩
theorem r_dput (hu : X.A.units + 64 < cLine) (ho : PE X o (tVar j)) (hi : PE X i (tD (tbX X cls) B fi)) (hv : PE X value (tD (tbX X cls) B fv)) (hs : swapsWith value (some (.Subscript o i pos')) pos.line X.env = pure false) :
    PS X (.Assign [.Subscript o i pos'] value pos) (tS (tbX X cls) B W (dDPut j fi fv)) := ⟨fun pins s σ H D I h => by
  obtain ⟨F, env, u, r, e, k⟩ := h
  unfold dDPut at e
  split at e
  · rename_i dv q1
    split at e
    · rename_i dk q2
      split at e
      · rename_i ks ds fl q3
        split at e
        · cases e
        · rename_i hfl
          split at e
          · rename_i ky q4
            split at e
            · rename_i hsz
              cases e
              refine wpAny_Assign_Subscript (thn (runE hv I r q1) fun nv s1 ⟨v, H1, F1, I1, rv, g1, p1⟩ => ?_) hs
              obtain ⟨v1, sl1, _, own1, _⟩ := (r.grow g1).sl j _ _ q3
              refine thn (ho.run pins s1 σ H1 (fun w H2 => w = v1 ∧ H2 = H1) I1 ⟨v1, sl1, rfl, rfl⟩) fun ov s2 ⟨w, H2, I2, rw2, e2⟩ => ?_
              obtain ⟨rfl, rfl⟩ := e2
              refine thn (runE hi I2 (r.grow g1) q2) fun iv s3 ⟨y, H3, F2, I3, ry, g2, p2⟩ => ?_
              have rel2 := (r.grow g1).grow g2
              obtain ⟨ad, es, rfl, hf, hh, hk, i1, i2⟩ := ((own1 hfl).1).grow g2
              obtain rfl : ov = Value.ref ad := rw2
              obtain ⟨z, hsm, hd, xs, rx, dd⟩ := nd_at I3 g2.fh hh hk i1
              obtain ⟨b, rfl, rfl, kb⟩ := tk_at I3 g2.fh p2 q4 ry
              obtain ⟨n1, n2, _⟩ := tkey_some q4
              have hlen : es.length = ks.length := by have := congrArg List.length hk; simpa using this
              refine wpAny_setItem_heap (hsz := ?_) (nd_room hu) kb dd fun h' dd' sb => ⟨σ, _, nd_put I3 hh (small_lt (by omega)) rx n2 rv ?_ hsm hd dd' sb, ?_⟩
              · obtain ⟨_, _, _, _, _, _, _, _, w⟩ := dd; exact w
              · obtain ⟨m1, m2, m3⟩ := putE_is n1 p2 (p1.mono g2.ff) hk i1 i2
                exact k F2 σ _ (g1.ff.trans g2.ff) (rel2.change hfl q3 sl1 ⟨ad, _, rfl, hf, upd_same, m1, m2, m3⟩)
              · rw [← Paired.length rx]; exact z
            · cases e
          · cases e
      · cases e
    · cases e
  · cases e⟩
theorem r_dgetOr (hu : X.A.units + 64 < cLine) (ho : PE X o (tP (tbX X cls) B fo)) (he : PE X e (tD (tbX X cls) B fi)) (hf : PE X x (tD (tbX X cls) B fx)) (m : M2 X o "get" apos e x cpos) : PE X (.Call (.Attribute o "get" apos) [e, x] [] cpos) (tD (tbX X cls) B (dDGetOr fo fi fx)) := ⟨fun pins s σ H Q I h => by
  obtain ⟨F, env, d, r, e, k⟩ := h
  unfold dDGetOr at e
  split at e
  · rename_i ks ds q
    split at e
    · rename_i dk q2
      split at e
      · rename_i dx q5
        split at e
        · rename_i ky q3
          cases e
          refine wpAny_Call_method m.base m.few m.line PySem.F.plainAttrs_dict PySem.F.slot_dict_get PySem.F.type_dict_get (thn (runP ho I r q) fun ov s1 ⟨v, H1, F1, I1, rv, g1, p1⟩ => ?_)
          obtain ⟨ad, es, rfl, ha, hk, i1, i2⟩ := pk_dic g1.fh p1
          obtain rfl : ov = Value.ref ad := rv
          refine ⟨(nd_type I1 ha).1, (nd_type I1 ha).2, ?_⟩
          rw [m.trees]
          refine Calls.callWith_builtin rfl (Calls.evalArgs_plain (Calls.spliced_cons (thn (runE he I1 (r.grow g1) q2) fun iv s2 ⟨y, H2, F2, I2, ry, g2, p2⟩ => ?_)))
          refine Calls.spliced_cons (thn (runE hf I2 ((r.grow g1).grow g2) q5) fun xv s3 ⟨y3, H3, F3, I3, r3, g3, p3⟩ => Calls.spliced_nil ?_)
          have i1' := i1.mono (g2.ff.trans g3.ff)
          have i2' := i2.mono (g2.ff.trans g3.ff)
          obtain ⟨z, hsm, hd, xs, rx, dd⟩ := nd_at I3 g3.fh (g3.hh _ _ (g2.hh _ _ ha)) hk i1'
          obtain ⟨b, rfl, rfl, kb⟩ := tk_at I3 g3.fh (p2.mono g3.ff) q3 ry
          refine call_meetsIn PySem.F.slot_dict_get dd.typeIs PySem.F.entry_dict_get (PySem.F.args_dict_get_3 _ _ _) (meetsH_dict_get_default (nestedKind X.prog X.w) ad b hsm xv) ⟨nd_room hu, ky, xs, kb, dd, ?_⟩
          have g13 := (g1.trans g2).trans g3
          cases w : getK ky ks ds with
          | none =>
            rw [(getK_of rx hk i2').2 w]
            exact ⟨y3, H3, I3.tok _, r3, k F3 H3 y3 g13 (by rw [w]; exact p3)⟩
          | some d' =>
            obtain ⟨p, w', hp, rw', iw⟩ := (getK_of rx hk i2').1 d' w
            rw [hp]
            exact ⟨w', H3, I3.tok _, rw', k F3 H3 w' g13 (by rw [w]; exact iw)⟩
        · cases e
      · cases e
    · cases e
  · cases e⟩
end
end Pd

/-! Pd: dict comprehensions with tuple keys. -/
namespace Pd
open PySem PySem.Spec PyProof.Rows L2

def dcL (tt : Tgt) (c : DT) (fk fv : DP) : List D → DEnv → List D → List D → Option (List D × List D)
  | [], _, ks, ds => some (ks, ds)
  | x :: xs, e, ks, ds => match tgtE tt x e with
    | none => none
    | some e1 => match c e1 with
      | none => none
      | some false => dcL tt c fk fv xs e ks ds
      | some true => match fk e1 with
        | none => none
        | some dk => match fv e1 with
          | none => none
          | some dv => match tkey dk with
            | none => none
            | some k => dcL tt c fk fv xs e (putKs k dk ks) (putVs k dv ks ds)
def dDc (vs : List Nat) (tt : Tgt) (it : DPs) (c : DT) (fk fv : DP) : DP := fun env => match it env with
  | some xs => if xs.length ≤ smallL then (dcL tt c fk fv xs (wipeE env vs) [] []).map fun p => .dic p.1 p.2 else none
  | none => none

/-- the reading of one turn's store: at D stands a dict that takes y, z -/
def StK (T : Tb) (D : Addr) (y z : V) (H : Hp) (Nx : Hp → Prop) : Prop := ∃ F es ks b dk k, Same F H ∧ H D = some (ND T D es) ∧ es.map (fun e => some e.1) = ks.map nkey ∧ IsL T F (es.map fun e => .ref e.2.1) ks ∧ y = .ref b ∧ Is T F y dk ∧ tkey dk = some k ∧ es.length < sizeLine ∧
  Nx (upd H D (ND T D (putE k b z es)))
def tDcN (T : Tb) (wi : TI) (g : TG) (tt : TT) (tk tv : TE) (vs : List Nat) : TE := fun σ H Q => wi σ H fun J H1 => ∀ D, H1 D = none → ∃ W : Nat → Nat → Hp → Prop, (∃ m, W 0 m (upd H1 D (ND T D []))) ∧ ∀ i m H2, W i m H2 →
  (J.stop i H2 ∧ Q (.ref D) H2) ∨ (J.go i H2 ∧ ∃ Nx : Hp → Prop, (∀ H3, Nx H3 → ∃ m2, m2 < m ∧ W (i + 1) m2 H3) ∧ ∀ x H3, J.yld i H2 x H3 → g x (wipe σ vs) H3 fun σ2 H4 => wipe σ2 vs = wipe σ vs ∧ tt σ2 H4 fun b H5 =>
    if b = true then tk σ2 H5 fun y H6 => tv σ2 H6 fun z H7 => StK T D y z H7 Nx else Nx H5)
theorem stk_set {X : Cx} {cls : Nat → Addr} {pins : List (Addr × Obj)} {σ : L2.St} {H : Hp} {s : Shared} {D : Addr} {y z : V} {u r : Value} {Nx : Hp → Prop} {Q : Unit → Shared → Prop} {E : Value → Shared → Prop} (hu : X.A.units + 64 < cLine) (I : Inv X pins σ H s) (h : StK (tbX X cls) D y z H Nx)
    (ry : L2.RelV y u) (rz : L2.RelV z r) (q : ∀ H' s', Inv X pins σ H' s' → Nx H' → Q () s') : wpAny (model X.prog X.w) X.A (dictSet D u r) Q E s := by
  obtain ⟨F, es, ks, b, dk, k, sm, hD, hk, i1, rfl, iy, tk, hz, nx⟩ := h
  obtain ⟨z1, hsm, hd, xs, rx, dd⟩ := nd_at I sm hD hk i1
  obtain ⟨b', e1, rfl, kb⟩ := tk_at I sm iy tk ry
  cases e1
  obtain ⟨_, n2, _⟩ := tkey_some tk
  refine wpAny_dictSet_heap (hsz := by rw [← Paired.length rx]; exact z1) (nd_room0 hu) kb dd fun h' dd' sb => q _ _ (nd_put I hD hz rx n2 rz ?_ hsm hd dd' sb) nx
  obtain ⟨_, _, _, _, _, _, _, _, w⟩ := dd
  exact w
section
variable {X : Cx} {cls : Nat → Addr}
/-- the block of a dict comprehension with such keys -/
theorem dc_core {pins : List (Addr × Obj)} {s : Shared} {σ : L2.St} {H : Hp} {Q : VK} {pos' : Pos} {use : Option (Value → Sem Unit)} {Qf : Value → Shared → Prop} {kx vx tg iter : Expr} {ifs : List Expr} {scope : Scope} {own : List (Str × Nat)} {pos : Pos} {wi : TI} {g : TG} {tt : TT} {tk tv : TE} (hu : X.A.units + 64 < cLine) (calm : X.calm = true) (hN : X.N.Nodup) (I : Inv X pins σ H s) (hi : PI X tg iter wi) (ok : BlkOk X.N X.env.scope scope own)
    (hg : ∀ (s : Shared) (H : Hp) (C : Addr) (cl : List (Str × Addr)) (fp : List Addr), PG (X.blk s H scope (compEnvC scope cl C X.env) fp) tg g)
    (ht : ∀ (s : Shared) (H : Hp) (C : Addr) (cl : List (Str × Addr)) (fp : List Addr), PTs (X.blk s H scope (compEnvC scope cl C X.env) fp) ifs tt)
    (hk : ∀ (s : Shared) (H : Hp) (C : Addr) (cl : List (Str × Addr)) (fp : List Addr), PE (X.blk s H scope (compEnvC scope cl C X.env) fp) kx tk)
    (hv : ∀ (s : Shared) (H : Hp) (C : Addr) (cl : List (Str × Addr)) (fp : List Addr), PE (X.blk s H scope (compEnvC scope cl C X.env) fp) vx tv) (hs : ∀ x, foldedSetIterable iter X.env x = pure x) (h : tDcN (tbX X cls) wi g tt tk tv (own.map (·.2)) σ H Q)
    (hRR : ∀ D C s' m H', Inv X pins σ H' s' → Q (.ref D) H' → s'.heap.Ns C m → FpOk X pins H' C → compPost (model X.prog X.w) X.A X.xe use Qf (.ref D) C (.ok .next) s') :
    wpAny (model X.prog X.w) X.A (comprehension (.DictComp kx vx [⟨tg, iter, ifs, 0⟩] scope pos) scope X.env pos' (newDict #[]) false (eval iter X.env) use) Qf X.xe s := by
  have caught : ∀ y ∈ scope.names, y.2 = .free → ∃ c, X.env.cells.lookup y.1 = some c := by
    intro y hy e
    exact (ok.free y hy e).elim (fun z => I.ok.has _ (.inl z)) fun z => I.ok.has _ (.inr z)
  refine wpAny_comprehension_free (use := use) rfl hs (closure_ok caught) ok.kind (fun y hy e => (ok.uniq y hy).trans (congrArg some e)) (thn (hi.run pins s σ H _ I h) fun xv s1 hx => thn hx fun itv s2 h2 => ?_)
  obtain ⟨it, fp, tn, J, H2, rfl, I2, T, st2, f2, q⟩ := h2
  refine wpAny_newObj_type (newEnv_comp ?_)
  -- the dict that is made, and the block's own names
  have hnew : H2 s2.heap.objs.size = none := I2.hok.fresh (Nat.le_refl _)
  obtain ⟨W, ⟨m0, w0⟩, turn⟩ := q _ hnew
  have I3 := nd_new (cls := cls) I2
  generalize eD : s2.heap.objs.size = D at hnew w0 turn I3 ⊢
  have eh : ∀ b o, s2.heap.get? b = some o → (s2.heap.push { cls := .type "dict", data := .dict #[] }).get? b = some o := fun b o z => Heap.get?_push_of_some _ z
  generalize e3 : ({ s2 with heap := s2.heap.push { cls := .type "dict", data := .dict #[] } } : Shared) = s3 at I3
  have h3 : s2.heap.push { cls := .type "dict", data := .dict #[] } = s3.heap := by rw [← e3]
  have below : ∀ b ∈ fp, b < s2.heap.objs.size := by
    intro b hb
    obtain ⟨o, e, _⟩ := T.obj _ _ st2 b hb
    exact Heap.lt_size e
  have f3 : ∀ b ∈ fp, FpOk X pins (upd H2 D (ND (tbX X cls) D [])) b ∧ b < s3.heap.objs.size := by
    intro b hb
    have lt := below b hb
    refine ⟨⟨?_, (f2 b hb).2⟩, ?_⟩
    · rw [upd_ne (show b ≠ D by rw [← eD]; exact Nat.ne_of_lt lt)]
      exact (f2 b hb).1
    · rw [← h3, Heap.size_push]
      exact Nat.lt_succ_of_lt lt
  have st3 : tn 0 s3.heap := T.keep _ _ _ st2 fun b _ o e => by rw [← h3]; exact eh b o e
  have I4 := block_start I3 ok hN f3
  generalize eN : cellsFrom (s3.heap.objs.size + 1) scope.names (cloFrom X.env.cells scope.names []) = cl at I4
  have pg := hg s3 (upd H2 D (ND (tbX X cls) D [])) s3.heap.objs.size cl fp
  have pt := ht s3 (upd H2 D (ND (tbX X cls) D [])) s3.heap.objs.size cl fp
  have pk := hk s3 (upd H2 D (ND (tbX X cls) D [])) s3.heap.objs.size cl fp
  have pv := hv s3 (upd H2 D (ND (tbX X cls) D [])) s3.heap.objs.size cl fp
  have free0 : ∀ b ∈ fp, (upd H2 D (ND (tbX X cls) D [])) b = none := fun b hb => (f3 b hb).1.1
  generalize eC : compEnvC scope cl s3.heap.objs.size X.env = ce at I4 pg pt pk pv
  have cL : ce.locals = s3.heap.objs.size := by rw [← eC]; rfl
  generalize eH : upd H2 D (ND (tbX X cls) D []) = H3 at I3 I4 pg pt pk pv w0 free0 f3
  generalize e4 : ({ s3 with heap := pushCells (s3.heap.push { cls := .type "dict", data := .dict #[] }) scope.names } : Shared) = s4 at I4
  have st4 : tn 0 s4.heap := T.keep _ _ _ st3 fun b _ o e => by rw [← e4]; exact pushCells_keeps _ _ _ _ (Heap.get?_push_of_some _ e)
  have apart : ∀ {σ' : L2.St} {H' : Hp} {s' : Shared}, Inv (X.blk s3 H3 scope ce fp) [] σ' H' s' → (∀ b ∈ fp, H' b = none) → ∀ b ∈ fp, FpOk (X.blk s3 H3 scope ce fp) [] H' b := by
    intro σ' H' s' J' hn b hb
    have x1 := J'.ok.exf b hb
    exact ⟨hn b hb, x1.1, J'.ok.exfs b hb, .inl hb, x1.2, fun p hp => by simp at hp⟩
  have back : ∀ {H' : Hp} {s' : Shared}, Inv (X.blk s3 H3 scope ce fp) [] (wipe σ (own.map (·.2))) H' s' → Inv X pins σ H' s' := fun J' =>
    I3.call' (ch := fp) J'.os J'.base J'.hok J'.bare fun b hb => by
      obtain ⟨_, y1, y2, y3, y4, y5⟩ := (f3 b hb).1
      exact ⟨y3, y1, y4, y5⟩
  have post : ∀ (H' : Hp) (s' : Shared), Inv (X.blk s3 H3 scope ce fp) [] (wipe σ (own.map (·.2))) H' s' → Q (.ref D) H' → compPost (model X.prog X.w) X.A X.xe use Qf (.ref D) s3.heap.objs.size (.ok .next) s' := by
    intro H' s' J' qq
    have nC : H' s3.heap.objs.size = none := by rw [← cL]; exact J'.free
    obtain ⟨m, hn, _⟩ := J'.loc
    have hn : s'.heap.Ns ce.locals m := hn
    rw [cL] at hn
    exact hRR D s3.heap.objs.size s' m H' (back J') qq hn (I3.fpOk (Nat.le_refl _) nC)
  have loop : codeAny (model X.prog X.w) X.A (.compLoop (.DictComp kx vx [⟨tg, iter, ifs, 0⟩] scope pos) 0 (.ref it) (.ref D) ce) (compPost (model X.prog X.w) X.A X.xe use Qf (.ref D) s3.heap.objs.size) s4 := by
    refine compLoop_anyD (fun n s' => ∃ i H', Inv (X.blk s3 H3 scope ce fp) [] (wipe σ (own.map (·.2))) H' s' ∧ tn i s'.heap ∧ (∀ b ∈ fp, H' b = none) ∧ W i n H') ?_ m0 ⟨0, H3, I4, st4, free0, w0⟩
    rintro n s5 ⟨i, H5, I5, st5, n5, w5⟩
    rcases turn i n H5 w5 with ⟨stop, qq⟩ | ⟨go, Nx, hNx, step⟩
    · refine thnF (T.done (X.blk s3 H3 scope ce fp) rfl rfl rfl calm i [] s5 _ H5 (fun _ _ => False) I5 (apart I5 n5) st5 stop) fun r s6 ⟨hr, I6⟩ => ?_
      subst hr
      exact post H5 s6 I6 qq
    · refine thnF (T.item (X.blk s3 H3 scope ce fp) rfl rfl rfl calm i [] s5 _ H5 (fun _ _ => False) I5 (apart I5 n5) st5 go) fun r s6 ⟨u, hr, h6⟩ => ?_
      subst hr
      refine thnF h6 fun _ s7 ⟨x, H7, I7, r7, y7, st7, n7⟩ => ?_
      refine thnF (pg.run _ s7 _ H7 x u _ (I7.pinned (apart I7 n7) (T.obj _ _ st7)) r7 (step x H7 y7)) fun _ s8 ⟨σ8, H8, I8, hw8, q8⟩ => ?_
      refine thnF (pt.run _ s8 σ8 H8 _ I8 q8) fun b s9 ⟨H9, I9, q9⟩ => ?_
      have ends : ∀ (H' : Hp) (s' : Shared), Inv (X.blk s3 H3 scope ce fp) ([] ++ pinsAt fp s7.heap) σ8 H' s' → Nx H' → ∃ m, m < n ∧ ∃ i H', Inv (X.blk s3 H3 scope ce fp) [] (wipe σ (own.map (·.2))) H' s' ∧ tn i s'.heap ∧ (∀ b ∈ fp, H' b = none) ∧ W i m H' := by
        intro H' s' J' nx
        obtain ⟨m2, lt2, w2⟩ := hNx H' nx
        have stays : ∀ b ∈ fp, ∀ o, s7.heap.get? b = some o → s'.heap.get? b = some o ∧ H' b = none := by
          intro b hb o e
          have z := J'.pin (b, o) (List.mem_append_right _ (List.mem_append_right _ (mem_pinsAt hb e)))
          exact ⟨z.1, z.2.1⟩
        have same : (wipe σ (own.map (·.2))).length = σ8.length := by rw [← hw8, wipe_length]
        have J0 := (J'.unpinned (pins := [])).weak same fun j v e => by
          rw [← hw8] at e
          exact (wipe_some e).1
        refine ⟨m2, lt2, i + 1, H', J0, T.keep _ _ _ st7 fun b hb o e => (stays b hb o e).1, fun b hb => ?_, w2⟩
        obtain ⟨o, e, _⟩ := T.obj _ _ st7 b hb
        exact (stays b hb o e).2
      cases b with
      | false =>
        have q9' : Nx H9 := by simpa using q9
        have z := ends H9 s9 I9 q9'
        simpa using z
      | true =>
        simp only [if_true] at q9 ⊢
        refine thnF (pk.run _ s9 σ8 H9 _ I9 q9) fun yv s10 ⟨y, H10, I10, r10, q10⟩ => ?_
        refine thnF (pv.run _ s10 σ8 H10 _ I10 q10) fun zv s11 ⟨z, H11, I11, r11, st⟩ => ?_
        exact stk_set (X := X.blk s3 H3 scope ce fp) hu I11 st r10 r11 fun H12 s12 I12 nx => ends H12 s12 I12 nx
  subst e4 eC eN
  exact codeAny_compStart_dict loop (T.self X.A 0 _ _ _ st4 loop)
theorem pe_dcN {kx vx tg iter : Expr} {ifs : List Expr} {scope : Scope} {own : List (Str × Nat)} {pos : Pos} {wi : TI} {g : TG} {tt : TT} {tk tv : TE} (hu : X.A.units + 64 < cLine) (calm : X.calm = true) (hN : X.N.Nodup) (hi : PI X tg iter wi) (ok : BlkOk X.N X.env.scope scope own)
    (hg : ∀ (s : Shared) (H : Hp) (C : Addr) (cl : List (Str × Addr)) (fp : List Addr), PG (X.blk s H scope (compEnvC scope cl C X.env) fp) tg g)
    (ht : ∀ (s : Shared) (H : Hp) (C : Addr) (cl : List (Str × Addr)) (fp : List Addr), PTs (X.blk s H scope (compEnvC scope cl C X.env) fp) ifs tt)
    (hk : ∀ (s : Shared) (H : Hp) (C : Addr) (cl : List (Str × Addr)) (fp : List Addr), PE (X.blk s H scope (compEnvC scope cl C X.env) fp) kx tk)
    (hv : ∀ (s : Shared) (H : Hp) (C : Addr) (cl : List (Str × Addr)) (fp : List Addr), PE (X.blk s H scope (compEnvC scope cl C X.env) fp) vx tv) (hs : ∀ x, foldedSetIterable iter X.env x = pure x := by intro _; rfl) :
    PE X (.DictComp kx vx [⟨tg, iter, ifs, 0⟩] scope pos) (tDcN (tbX X cls) wi g tt tk tv (own.map (·.2))) := ⟨fun pins s σ H Q I h => by
  rw [arm_eval_DictComp]
  refine dc_core (use := none) hu calm hN I hi ok hg ht hk hv hs h fun D C s' m H' J qq hn f => ?_
  obtain ⟨c0, c1, c2, c3, c4, c5⟩ := f
  refine ⟨m, hn, fun h'' sb => ⟨.ref D, H', ?_, rfl, qq⟩⟩
  exact J.turned (t' := s'.toks) (fun b o hb e => (sb.2 b hb).trans e) c0 c1 c3 c4 c5⟩
theorem ps_setDc {i : Nat} {y : Str} {py spos : Pos} {kx vx tg iter : Expr} {ifs : List Expr} {scope : Scope} {own : List (Str × Nat)} {pos : Pos} {wi : TI} {g : TG} {tt : TT} {tk tv : TE} (hu : X.A.units + 64 < cLine) (calm : X.calm = true) (hN : X.N.Nodup) (hy : X.N[i]? = some y) (hyl : X.env.scope.names.lookup y = some .local) (hsw : swapsWith (.DictComp kx vx [⟨tg, iter, ifs, 0⟩] scope pos) (some (.Name y py)) spos.line X.env = pure true) (hi : PI X tg iter wi) (ok : BlkOk X.N X.env.scope scope own)
    (hg : ∀ (s : Shared) (H : Hp) (C : Addr) (cl : List (Str × Addr)) (fp : List Addr), PG (X.blk s H scope (compEnvC scope cl C X.env) fp) tg g)
    (ht : ∀ (s : Shared) (H : Hp) (C : Addr) (cl : List (Str × Addr)) (fp : List Addr), PTs (X.blk s H scope (compEnvC scope cl C X.env) fp) ifs tt)
    (hk : ∀ (s : Shared) (H : Hp) (C : Addr) (cl : List (Str × Addr)) (fp : List Addr), PE (X.blk s H scope (compEnvC scope cl C X.env) fp) kx tk)
    (hv : ∀ (s : Shared) (H : Hp) (C : Addr) (cl : List (Str × Addr)) (fp : List Addr), PE (X.blk s H scope (compEnvC scope cl C X.env) fp) vx tv) (hs : ∀ x, foldedSetIterable iter X.env x = pure x := by intro _; rfl) :
    PS X (.Assign [.Name y py] (.DictComp kx vx [⟨tg, iter, ifs, 0⟩] scope pos) spos) (tAsg (tDcN (tbX X cls) wi g tt tk tv (own.map (·.2))) (gName i)) := by
  refine ⟨fun pins s σ H D I h => ?_⟩
  rw [exec_Assign_Name_used _ _ _ _ hsw]
  refine wpAny_bind (wpAny_standAt (wpAny_bind ?_))
  show wpAny _ X.A (do let _ ← comprehension (.DictComp kx vx [⟨tg, iter, ifs, 0⟩] scope pos) scope X.env (firstIterPos [⟨tg, iter, ifs, 0⟩] pos) (newDict #[]) false (eval iter X.env) (some (assign (.Name y py) X.env))) _ _ s
  have h : tDcN (tbX X cls) wi g tt tk tv (own.map (·.2)) σ H (fun x H1 => gName i x σ H1 D.nx) := h
  refine wpAny_bind (thn (dc_core (Qf := fun _ s' => SP X pins D .next s') hu calm hN I hi ok hg ht hk hv hs h fun L C s' m H' I' q hn f => ?_) fun _ s' hq => wpAny_pure (wpAny_pure hq))
  show wpAny _ _ (assign (.Name y py) X.env (.ref L)) _ _ _
  refine wpAny_assign_Name (store_ok2 (v := V.ref L) I' hN hy (.inl hyl) rfl (fun s2 I2 ⟨a, sb, ha⟩ => ?_) (.inr hyl))
  obtain ⟨f0, f1, f2, f3, f4, f5⟩ := f
  have haC : C ≠ a := by
    rcases ha with z | z
    · rw [z]; exact f1
    · exact fun e => f4 y a z e.symm
  refine ⟨m, hn.sameBut sb haC, fun h3 sb3 => ?_⟩
  exact ⟨_, H', I2.turned (t' := s2.toks) (fun b o hb e => (sb3.2 b hb).trans e) f0 f1 f3 f4 f5, q⟩
theorem sw_trueD {kx vx : Expr} {gs : List Comprehension} {scope : Scope} {pos py : Pos} {y : Str} {l : Nat} {env : Env} (hk : env.scope.kind = .function) (hy : env.scope.names.lookup y = some .local) (hl : (py.line == pos.line) = true)
    (ha : (scope.names.any fun (n, k) => n == y && (k == .local || k == .cell)) = false) : swapsWith (.DictComp kx vx gs scope pos) (some (.Name y py)) l env = pure true := by
  have ky : env.kindOf y = some .local := hy
  have hb : env.blockKind = .function := by unfold Env.blockKind; rw [hk]; rfl
  unfold swapsWith
  simp only [hb, ky, ha, Expr.pos, hl]
  rfl
end

theorem putKs_len {k : NestedKey} {dk : D} : ∀ ks : List D, (putKs k dk ks).length ≤ ks.length + 1
  | [] => Nat.le_refl _
  | x :: ks => by
    unfold putKs
    split
    · simp
    · have := putKs_len (k := k) (dk := dk) ks
      simp only [List.length_cons]; omega
section
variable {X : Cx} {cls : Nat → Addr} {B : Base} {tg iter kx vx : Expr} {pos : Pos} {fk fv : DP} {it : DPs} {ifs : List Expr} {scope : Scope} {own : List (Str × Nat)} {c : DT} {tt : Tgt} {vs : List Nat}
theorem tDc_of {T : Tb} {σ : L2.St} {H : Hp} {Q : VK} (hv : ∀ i ∈ tt.slots, i ∈ vs) (h : tO T B (dDc vs tt it c fk fv) σ H Q) : tDcN T (tIt T B it) (gD T B tt) (tTt T B c) (tD T B fk) (tD T B fv) vs σ H Q := by
  obtain ⟨F, env, d, r, e, k⟩ := h
  unfold dDc at e
  split at e
  · rename_i xs q
    split at e
    · rename_i hsz
      obtain ⟨⟨ok, od⟩, ho, rfl⟩ := Option.map_eq_some_iff.mp e
      refine ⟨F, env, xs, r, q, fun J F1 H1 g1 Y L hL => ?_⟩
      have hF1 : F1 L = none := g1.fh.free hL
      refine ⟨fun j m H2 => m = xs.length - j ∧ ∃ F2 es ks ds, Grow F1 H1 F2 H2 ∧ H2 L = some (ND T L es) ∧ F2 L = none ∧ es.map (fun e => some e.1) = ks.map nkey ∧ IsL T F2 (es.map fun e => .ref e.2.1) ks ∧ IsL T F2 (es.map fun e => e.2.2) ds ∧ ks.length ≤ j ∧ dcL tt c fk fv (xs.drop j) (wipeE env vs) ks ds = some (ok, od),
        ⟨xs.length, by simp, F1, [], [], [], Grow.side g1.fh hL, upd_same, hF1, rfl, IsL.nil, IsL.nil, Nat.le_refl _, by simpa using ho⟩, ?_⟩
      rintro j m H2 ⟨rfl, F2, es, ks, ds, g2, hl2, hf2, hk, ik, iv, hdl, ct⟩
      obtain ⟨yl, ys⟩ := Y F2 H2 j g2.ff g2.fh
      by_cases hj : j < xs.length
      · have hd : xs[j]? = some xs[j] := by simp [hj]
        rw [List.drop_eq_getElem_cons hj] at ct
        obtain ⟨hgo, hy⟩ := yl _ hd
        refine .inr ⟨hgo, fun H' => ∃ F2 es ks ds, Grow F1 H1 F2 H' ∧ H' L = some (ND T L es) ∧ F2 L = none ∧ es.map (fun e => some e.1) = ks.map nkey ∧ IsL T F2 (es.map fun e => .ref e.2.1) ks ∧ IsL T F2 (es.map fun e => e.2.2) ds ∧ ks.length ≤ j + 1 ∧ dcL tt c fk fv (xs.drop (j + 1)) (wipeE env vs) ks ds = some (ok, od),
          fun H' z => ⟨xs.length - (j + 1), by omega, rfl, z⟩, fun x H3 y => ?_⟩
        obtain ⟨F3, g3, ix⟩ := hy x H3 y
        have g13 := g2.trans g3
        have hl3 := g3.hh L _ hl2
        have hf3 := g3.own hf2 (by rw [hl2]; simp)
        unfold dcL at ct
        split at ct
        · cases ct
        · rename_i e1 ht
          have rw3 : Rel T B F3 (wipe σ vs) H3 (wipeE env vs) := ((r.grow g1).grow g13).wipe vs
          refine ⟨F3, _, _, e1, rw3, ix, ht, fun σ' r' hw => ⟨?_, ?_⟩⟩
          · rw [hw vs hv, wipe_idem fun _ h => h]
          · split at ct
            · cases ct
            · rename_i hc
              refine ⟨F3, e1, false, r', hc, fun F4 H4 g4 => ?_⟩
              refine iteF ?_
              have s34 := g3.ff.trans g4.ff
              exact ⟨F4, es, ks, ds, g13.trans g4, g4.hh L _ hl3, g4.own hf3 (by rw [hl3]; simp), hk, ik.mono s34, iv.mono s34, by omega, ct⟩
            · rename_i hc
              refine ⟨F3, e1, true, r', hc, fun F4 H4 g4 => ?_⟩
              refine iteT ?_
              split at ct
              · cases ct
              · rename_i dk hdk
                split at ct
                · cases ct
                · rename_i dv hdv
                  split at ct
                  · cases ct
                  · rename_i ky hky
                    refine ⟨F4, e1, dk, r'.grow g4, hdk, fun F5 H5 y g5 iy => ⟨F5, e1, dv, (r'.grow g4).grow g5, hdv, fun F6 H6 z g6 iz => ?_⟩⟩
                    have g16 := ((g13.trans g4).trans g5).trans g6
                    have nn : ∀ {G : Hp}, G L = some (ND T L es) → G L ≠ none := fun w => by rw [w]; simp
                    have hl4 := g4.hh L _ hl3
                    have hl5 := g5.hh L _ hl4
                    have hl6 := g6.hh L _ hl5
                    have hf6 := g6.own (g5.own (g4.own hf3 (nn hl3)) (nn hl4)) (nn hl5)
                    have s26 := ((g3.ff.trans g4.ff).trans g5.ff).trans g6.ff
                    obtain ⟨t1, t2, txs, rfl⟩ := tkey_some hky
                    have iy6 := iy.mono g6.ff
                    obtain ⟨b, bvs, eb, _, _⟩ := (by simpa only [Is] using iy6 : ∃ a vs, y = .ref a ∧ SqT T.K F6 a vs ∧ IsL T F6 vs txs)
                    subst eb
                    obtain ⟨m1, m2, m3⟩ := putE_is (v := z) (dv := dv) t1 iy6 iz hk (ik.mono s26) (iv.mono s26)
                    have hlen : es.length = ks.length := by have := congrArg List.length hk; simpa using this
                    refine ⟨F6, es, ks, b, _, ky, g6.fh, hl6, hk, ik.mono s26, rfl, iy6, hky, small_lt (by omega), F6, _, _, _, ⟨g16.ff, fun b' o hb => ?_, fun b' o hb => ?_, g16.nw⟩, upd_same, hf6, m1, m2, m3, ?_, ct⟩
                    · rw [upd_ne (ne_of_none hb hL)]
                      exact g16.hh b' o hb
                    · rw [upd_ne (ne_of_none hb hf6)]
                      exact g16.fh b' o hb
                    · have := putKs_len (k := ky) (dk := D.tup txs) ks
                      omega
      · refine .inl ⟨ys (by omega), ?_⟩
        rw [List.drop_of_length_le (by omega)] at ct
        cases ct
        exact k F2 H2 L (g1.trans g2) ⟨L, es, rfl, hf2, hl2, hk, ik, iv⟩ (g1.hh.free hL)
    · cases e
  · cases e
theorem r_dc (hu : X.A.units + 64 < cLine) (calm : X.calm = true) (hN : X.N.Nodup) (hi : PI X tg iter (tIt (tbX X cls) B it)) (ok : BlkOk X.N X.env.scope scope own) (hv : ∀ i ∈ tt.slots, i ∈ own.map (·.2))
    (hg : ∀ (s : Shared) (H : Hp) (C : Addr) (cl : List (Str × Addr)) (fp : List Addr), PG (X.blk s H scope (compEnvC scope cl C X.env) fp) tg (gD (tbX X cls) B tt))
    (ht : ∀ (s : Shared) (H : Hp) (C : Addr) (cl : List (Str × Addr)) (fp : List Addr), PTs (X.blk s H scope (compEnvC scope cl C X.env) fp) ifs (tTt (tbX X cls) B c))
    (hk : ∀ (s : Shared) (H : Hp) (C : Addr) (cl : List (Str × Addr)) (fp : List Addr), PE (X.blk s H scope (compEnvC scope cl C X.env) fp) kx (tD (tbX X cls) B fk))
    (he : ∀ (s : Shared) (H : Hp) (C : Addr) (cl : List (Str × Addr)) (fp : List Addr), PE (X.blk s H scope (compEnvC scope cl C X.env) fp) vx (tD (tbX X cls) B fv)) (hs : ∀ x, foldedSetIterable iter X.env x = pure x := by intro _; rfl) :
    PE X (.DictComp kx vx [⟨tg, iter, ifs, 0⟩] scope pos) (tO (tbX X cls) B (dDc (own.map (·.2)) tt it c fk fv)) := weakE (pe_dcN hu calm hN hi ok hg ht hk he hs) fun _ _ _ h => tDc_of hv h
/-- y = {..} -/
theorem r_setDc {W : Nat → Hp → Prop} {i : Nat} {y : Str} {py spos : Pos} (hu : X.A.units + 64 < cLine) (calm : X.calm = true) (hN : X.N.Nodup) (hy : X.N[i]? = some y) (hyl : X.env.scope.names.lookup y = some .local) (hsw : swapsWith (.DictComp kx vx [⟨tg, iter, ifs, 0⟩] scope pos) (some (.Name y py)) spos.line X.env = pure true) (hi : PI X tg iter (tIt (tbX X cls) B it)) (ok : BlkOk X.N X.env.scope scope own) (hv : ∀ i ∈ tt.slots, i ∈ own.map (·.2))
    (hg : ∀ (s : Shared) (H : Hp) (C : Addr) (cl : List (Str × Addr)) (fp : List Addr), PG (X.blk s H scope (compEnvC scope cl C X.env) fp) tg (gD (tbX X cls) B tt))
    (ht : ∀ (s : Shared) (H : Hp) (C : Addr) (cl : List (Str × Addr)) (fp : List Addr), PTs (X.blk s H scope (compEnvC scope cl C X.env) fp) ifs (tTt (tbX X cls) B c))
    (hk : ∀ (s : Shared) (H : Hp) (C : Addr) (cl : List (Str × Addr)) (fp : List Addr), PE (X.blk s H scope (compEnvC scope cl C X.env) fp) kx (tD (tbX X cls) B fk))
    (he : ∀ (s : Shared) (H : Hp) (C : Addr) (cl : List (Str × Addr)) (fp : List Addr), PE (X.blk s H scope (compEnvC scope cl C X.env) fp) vx (tD (tbX X cls) B fv)) (hs : ∀ x, foldedSetIterable iter X.env x = pure x := by intro _; rfl) :
    PS X (.Assign [.Name y py] (.DictComp kx vx [⟨tg, iter, ifs, 0⟩] scope pos) spos) (tS (tbX X cls) B W (dSetO i (dDc (own.map (·.2)) tt it c fk fv))) := weakS (ps_setDc (cls := cls) hu calm hN hy hyl hsw hi ok hg ht hk he hs) fun D σ H ⟨F, env, o, r, e, k⟩ => by
  obtain ⟨d, e1, rfl⟩ := Option.map_eq_some_iff.mp e
  refine tDc_of hv ⟨F, env, d, r, e1, fun F' H' a g1 iv hn => k F' _ H' g1.ff ((r.grow g1).setO iv (r.bh.free hn) ?_)⟩
  rintro ⟨j, d', o1, ho, h1, h2⟩
  obtain ⟨v, k1, _, k3, _⟩ := r.sl j d' o1 h1
  rw [h2] at k1; cases k1
  obtain ⟨b', o', eb, _, hb⟩ := (k3 ho).1.at
  cases eb
  rw [hn] at hb; cases hb
end
end Pd

/-! Pd: what own classes say of operators, truth, len, [], minus; isinstance; static methods; properties. -/
namespace Pd
open PySem PySem.Spec PyProof.Rows L2

section
variable {X : Cx} {cls : Nat → Addr} {B : Base} {W : Nat → Hp → Prop} {e o a b value slice : Expr} {es : List Expr} {pos p apos pos' : Pos} {f fa fb fo : DP} {fr : DPs} {c c2 i n lv : Nat} {name x mn : Str} {CX : CXT} {fA : Addr} {fd : FuncData} {ps : List Str} {dvs : List V} {dvv : List Value} {dd : List D} {m : List D → Option D} {sp : Sp} {E : XK}

theorem run_fn1 {pins : List (Addr × Obj)} {σ : L2.St} {H : Hp} {s : Shared} {Q : VK} {us : List Value} {vs : List V} (F : FnOk X.prog X.w X.K X.mg X.base CX lv fA fd ps sp) (hr : Room (lv + 1) X.A) (hb : Binds X.K fd ps dvv) (hd : Vals dvs dvv) (hx : Passes CX X E)
    (I : Inv X pins σ H s) (r : Vals vs us) (h : sp (vs ++ dvs) H Q E) : wpAny (model X.prog X.w) X.A.in1 (call (.ref fA) us) (EP X pins σ Q) X.xe s := by
  have r2 : Vals (vs ++ dvs) (us ++ dvv) := r.append hd
  have hl : (us ++ dvv).length = ps.length := by
    rw [← r2.length]
    exact F.len _ _ _ _ h
  refine wpAny_call (codeAny_mono (F.run X.A.in1 X.stack s H ⟨us, []⟩ _ _ Q E hr.in1 I.env0.in1 (hb s us I.kIn hl) r2 h) fun r s' hq => ?_)
  match r, hq with
  | .error e, hq => exact hx pins σ H s e s' I hq
  | .ok (.ret u), hq => exact I.after hq
  | .ok .next, hq => exact False.elim hq
  | .ok .brk, hq => exact False.elim hq
  | .ok .cont, hq => exact False.elim hq
theorem cmpBack_of {pins : List (Addr × Obj)} {σ : L2.St} {Q : VK} {u : Value} {s : Shared} (h : EP X pins σ Q u s) : PySem.W.CmpBack (EP X pins σ Q) u s := by
  have h' := h
  obtain ⟨v, H, I, r, q⟩ := h
  cases v with
  | non => cases r; exact h'
  | bl _ => cases r; exact h'
  | int _ => obtain ⟨t, rfl⟩ := r; exact h'
  | str _ => obtain ⟨t, rfl⟩ := r; exact h'
  | byt _ => obtain ⟨t, rfl⟩ := r; exact h'
  | flt _ => obtain ⟨t, rfl⟩ := r; exact h'
  | ref _ => cases r; exact h'
  | ty _ => cases r; exact h'

/-- the class's own method for a built-in's work -/
structure OwnF (K : PySem.W.Frag) (C : Addr) (dn : Str) (f : Addr) : Prop where
  at_ : PySem.W.findIn K (.ref C) dn = some (some (.ref f))
  fn : PySem.W.isFn K (.ref f) = true

/-- o + p, o - p, o * p of one own class -/
def rOwn (C : Addr) (sp : Sp) (E : XK) : R2 := fun x y H Q => ∃ a b dx dy fs gs, x = .ref a ∧ y = .ref b ∧ H a = some (.ins C dx fs) ∧ H b = some (.ins C dy gs) ∧ sp [.ref a, .ref b] H Q E
theorem op_own {C : Addr} {op : Operator} (hs : OwnF X.K C (PySem.dunder op.info.2) fA) (sf : PySem.W.selfFirst X.K C = true) (G : FnOk X.prog X.w X.K X.mg X.base CX lv fA fd ps sp) (hr : Room lv X.A) (hb : Binds X.K fd ps []) (hx : Passes CX X E) : OpR X (binaryOp op) (rOwn C sp E) := by
  intro pins s σ H x y v u Q I rx ry h
  obtain ⟨a, b, dx, dy, fs, gs, rfl, rfl, ea, eb, q⟩ := h
  obtain rfl : v = Value.ref a := rx
  obtain rfl : u = Value.ref b := ry
  obtain ⟨mA, O, _⟩ := ins_get I.hok ea
  obtain ⟨od, J, _⟩ := O.look
  obtain ⟨mB, O2, _⟩ := ins_get I.hok eb
  obtain ⟨od2, J2, _⟩ := O2.look
  obtain ⟨m0, fr⟩ := I.fr
  refine PySem.W.binop_K fr I.ok.mod.kin J J2.type sf hs.at_ hs.fn ?_
  refine wpAny_mono (run_fn (us := [.ref a, .ref b]) (vs := [.ref a, .ref b]) G hr hb .nil hx I (.cons rfl (.cons rfl .nil)) (by simpa using q)) (fun u s' z => cmpBack_of z) fun _ _ z => z
def gOwn (c : Nat) (m : List D → Option D) : D → D → Option D
  | .obj c1 ns ds, .obj c2 ns' ds' => if c1 = c ∧ c2 = c then m [.obj c1 ns ds, .obj c2 ns' ds'] else none
  | _, _ => none
theorem sOwn {T : Tb} {E : XK} : OpS T (rOwn (T.cls c) (spD T 2 m) E) (gOwn c m) := fun F H x y dx dy d Q s ix iy e k => by
  unfold gOwn at e
  split at e
  · rename_i c1 ns ds c2 ns' ds'
    split at e
    · rename_i hc
      obtain ⟨h1, h2⟩ := hc
      subst h1 h2
      have ix' := ix
      have iy' := iy
      simp only [Is] at ix iy
      obtain ⟨a, dx', gs, rfl, ha, _⟩ := ix
      obtain ⟨b, dy', hs, rfl, hb, _⟩ := iy
      exact ⟨a, b, dx', dy', gs, hs, rfl, rfl, s _ _ ha, s _ _ hb, F, _, d, s, IsL.cons ix' (IsL.cons iy' IsL.nil), rfl, e, k⟩
    · cases e
  · cases e
theorem r_own {op : Operator} (hs : OwnF X.K (cls c) (PySem.dunder op.info.2) fA) (sf : PySem.W.selfFirst X.K (cls c) = true) (G : FnOk X.prog X.w X.K X.mg X.base CX lv fA fd ps (spD (tbX X cls) 2 m)) (hr : Room lv X.A) (hb : Binds X.K fd ps []) (hx : Passes CX X E0)
    (ha : PE X a (tD (tbX X cls) B fa)) (hc : PE X b (tD (tbX X cls) B fb)) : PE X (.BinOp a op b pos) (tD (tbX X cls) B (dBin (gOwn c m) fa fb)) := r_bin (op_own hs sf G hr hb hx) sOwn ha hc

/-- -o -/
def dNegO (c : Nat) (m : List D → Option D) (f : DP) : DP := fun env => match f env with
  | some (.obj c1 ns ds) => if c1 = c then m [.obj c1 ns ds] else none
  | _ => none
theorem r_negO (hs : OwnF X.K (cls c) "__neg__" fA) (G : FnOk X.prog X.w X.K X.mg X.base CX lv fA fd ps (spD (tbX X cls) 1 m)) (hr : Room lv X.A) (hb : Binds X.K fd ps []) (hx : Passes CX X E0) (ha : PE X a (tD (tbX X cls) B fa)) :
    PE X (.UnaryOp .USub a pos) (tD (tbX X cls) B (dNegO c m fa)) := ⟨fun pins s σ H Q I h => by
  obtain ⟨F, env, d, r, e, k⟩ := h
  unfold dNegO at e
  split at e
  · rename_i c1 ns ds q
    split at e
    · rename_i hc
      subst hc
      refine UnaryOp_ (thn (runE ha I r q) fun u s1 ⟨v, H1, F1, I1, rv, g1, iv⟩ => ?_)
      have iv' := iv
      simp only [Is] at iv
      obtain ⟨ad, dx, gs, rfl, hh, _⟩ := iv
      obtain rfl : u = Value.ref ad := rv
      obtain ⟨mA, O, _⟩ := ins_get I1.hok (g1.fh _ _ hh)
      obtain ⟨od, J, _⟩ := O.look
      obtain ⟨m0, fr⟩ := I1.fr
      refine PySem.W.ksp_neg fr I1.ok.mod.kin J hs.at_ hs.fn ?_
      exact run_fn (us := [.ref ad]) (vs := [.ref ad]) G hr hb .nil hx I1 (.cons rfl .nil) ⟨F1, [_], d, g1.fh, IsL.cons iv' IsL.nil, rfl, e, fun F2 H2 w g2 iw => k F2 H2 w (g1.trans g2) iw⟩
    · cases e
  · cases e⟩
/-- if o -/
def dTruO (c : Nat) (m : List D → Option D) (f : DP) : DT := fun env => match f env with
  | some (.obj c1 ns ds) => if c1 = c then match m [.obj c1 ns ds] with
    | some (.bl b) => some b
    | _ => none
    else none
  | _ => none
theorem r_truO (hs : OwnF X.K (cls c) "__bool__" fA) (G : FnOk X.prog X.w X.K X.mg X.base CX lv fA fd ps (spD (tbX X cls) 1 m)) (hr : Room lv X.A) (hb : Binds X.K fd ps []) (hx : Passes CX X E0) (ha : PE X a (tD (tbX X cls) B fa))
    (he : ∀ whole, isTrue a X.env whole = (do let v ← whole; standAt a.pos; holding [v] (truthy v)) := by intro _; rfl) : PT X a (tTt (tbX X cls) B (dTruO c m fa)) := ⟨fun pins s σ H Q I h => by
  obtain ⟨F, env, d, r, e, k⟩ := h
  unfold dTruO at e
  split at e
  · rename_i c1 ns ds q
    split at e
    · rename_i hc
      subst hc
      split at e
      · rename_i bb em
        cases e
        refine isTrue_plain (thn (runE ha I r q) fun u s1 ⟨v, H1, F1, I1, rv, g1, iv⟩ => ?_) (he _)
        have iv' := iv
        simp only [Is] at iv
        obtain ⟨ad, dx, gs, rfl, hh, _⟩ := iv
        obtain rfl : u = Value.ref ad := rv
        obtain ⟨mA, O, _⟩ := ins_get I1.hok (g1.fh _ _ hh)
        obtain ⟨od, J, _⟩ := O.look
        obtain ⟨m0, fr⟩ := I1.fr
        refine PySem.W.truthy_K fr I1.ok.mod.kin J hs.at_ hs.fn ?_
        refine wpAny_mono (run_fn (us := [.ref ad]) (vs := [.ref ad]) (Q := fun v H2 => v = .bl d ∧ Q d H2) G hr hb .nil hx I1 (.cons rfl .nil) ⟨F1, [_], .bl d, g1.fh, IsL.cons iv' IsL.nil, rfl, em, fun F2 H2 w g2 iw => ⟨by simpa only [Is] using iw, k F2 H2 (g1.trans g2)⟩⟩) (fun u s2 z => ?_) fun _ _ z => z
        obtain ⟨v2, H2, I2, r2, rfl, q2⟩ := z
        cases r2
        exact ⟨H2, I2, q2⟩
      · cases e
    · cases e
  · cases e⟩
/-- len(o) -/
def dLenO (c : Nat) (m : List D → Option D) (f : DP) : DP := fun env => match f env with
  | some (.obj c1 ns ds) => if c1 = c then match m [.obj c1 ns ds] with
    | some (.int i) => if 0 ≤ i ∧ i < 2 ^ 62 then some (.int i) else none
    | _ => none
    else none
  | _ => none
theorem r_lenO (hs : OwnF X.K (cls c) "__len__" fA) (G : FnOk X.prog X.w X.K X.mg X.base CX lv fA fd ps (spD (tbX X cls) 1 m)) (hr : Room (lv + 1) X.A) (hb : Binds X.K fd ps []) (hx : Passes CX X E0) (ha : PE X a (tD (tbX X cls) B fa))
    (hg : Gl X "len") (hm : X.mg "len" = none) (he : starEach [a] X.env = [(false, eval a X.env)] := by rfl) (hpl : (backTo pos (starEach [] X.env)).any (·.1) = false := by rfl) :
    PE X (.Call (.Name "len" p) [a] [] pos) (tD (tbX X cls) B (dLenO c m fa)) := ⟨fun pins s σ H Q I h => by
  obtain ⟨F, env, d, r, e, k⟩ := h
  unfold dLenO at e
  split at e
  · rename_i c1 ns ds q
    split at e
    · rename_i hc
      subst hc
      split at e
      · rename_i i em
        split at e
        · rename_i hi
          cases e
          refine wpAny_Call_Name_kw (ld_blt I hg hm (u := .builtin "len") (by rfl) ?_ (by decide) (by decide))
          have hT : PA X [a] (tCons (tD (tbX X cls) B fa) tNil) := pa_cons ha pa_nil he
          refine callWith_builtin1 (thn (hT.run pos pins s σ H (fun vs H1 => ∃ v F1, vs = [v] ∧ Grow F H F1 H1 ∧ Is (tbX X cls) F1 v (.obj c1 ns ds)) I ⟨F, env, _, r, q, fun F1 H1 v g1 iv => ⟨v, F1, rfl, g1, iv⟩⟩) fun us s1 ⟨vs, H1, I1, rvs, v, F1, evs, g1, iv⟩ => ?_) he hpl
          subst evs
          cases rvs with
          | cons rv rn =>
            cases rn
            have iv' := iv
            simp only [Is] at iv
            obtain ⟨ad, dx, gs, rfl, hh, _⟩ := iv
            cases rv
            obtain ⟨mA, O, _⟩ := ins_get I1.hok (g1.fh _ _ hh)
            obtain ⟨od, J, _⟩ := O.look
            obtain ⟨m0, fr⟩ := I1.fr
            refine PySem.W.len_K fr I1.ok.mod.kin J hs.at_ hs.fn ?_
            refine wpAny_mono (run_fn1 (us := [.ref ad]) (vs := [.ref ad]) (Q := fun v H2 => v = .int i ∧ Q (.int i) H2) G hr hb .nil hx I1 (.cons rfl .nil) ⟨F1, [_], .int i, g1.fh, IsL.cons iv' IsL.nil, rfl, em, fun F2 H2 w g2 iw => ⟨by simpa only [Is] using iw, k F2 H2 _ (g1.trans g2) (by simp only [Is])⟩⟩) (fun u s2 z => ?_) fun _ _ z => z
            obtain ⟨v2, H2, I2, r2, rfl, q2⟩ := z
            obtain ⟨t, rfl⟩ := r2
            exact ⟨⟨hi.1, by omega⟩, .int i, H2, I2.tok _, ⟨_, rfl⟩, q2⟩
        · cases e
      · cases e
    · cases e
  · cases e⟩
/-- o[i] -/
def dSubO (c : Nat) (m : List D → Option D) (f g : DP) : DP := fun env => match f env with
  | some (.obj c1 ns ds) => if c1 = c then match g env with
    | some d => m [.obj c1 ns ds, d]
    | none => none
    else none
  | _ => none
theorem r_subO (hs : OwnF X.K (cls c) "__getitem__" fA) (hfi : PySem.W.fnIn X.K fA = true) (G : FnOk X.prog X.w X.K X.mg X.base CX lv fA fd ps (spD (tbX X cls) 2 m)) (hr : Room (lv + 1) X.A) (hb : Binds X.K fd ps []) (hx : Passes CX X E0)
    (ho : PE X o (tD (tbX X cls) B fo)) (ha : PE X slice (tD (tbX X cls) B fa)) (hsl : ∀ ov iv, subscripted slice true ov iv = runValue (.builtin "lifetime.subscript" ⟨[ov, iv], []⟩) := by intro _ _; with_unfolding_all rfl) :
    PE X (.Subscript o slice pos) (tD (tbX X cls) B (dSubO c m fo fa)) := ⟨fun pins s σ H Q I h => by
  obtain ⟨F, env, d, r, e, k⟩ := h
  unfold dSubO at e
  split at e
  · rename_i c1 ns ds q
    split at e
    · rename_i hc
      subst hc
      split at e
      · rename_i di qi
        refine Subscript_ (thn (runE ho I r q) fun u s1 ⟨v, H1, F1, I1, rv, g1, iv⟩ => thn (runE ha I1 (r.grow g1) qi) fun w s2 ⟨y, H2, F2, I2, ry, g2, iy⟩ => ?_)
        have iv' := iv.mono g2.ff
        simp only [Is] at iv
        obtain ⟨ad, dx, gs, rfl, hh, _⟩ := iv
        obtain rfl : u = Value.ref ad := rv
        obtain ⟨mA, O, _⟩ := ins_get I2.hok (g2.fh _ _ (g2.ff _ _ hh))
        obtain ⟨od, J, _⟩ := O.look
        obtain ⟨m0, fr⟩ := I2.fr
        refine PySem.W.sub_K fr I2.ok.mod.kin J hs.at_ hfi hs.fn ?_ (hsl _ _)
        exact run_fn1 (us := [.ref ad, w]) (vs := [.ref ad, y]) G hr hb .nil hx I2 (.cons rfl (.cons ry .nil)) ⟨F2, [_, di], d, g2.fh, IsL.cons iv' (IsL.cons iy IsL.nil), rfl, e, fun F3 H3 z g3 iz => k F3 H3 z ((g1.trans g2).trans g3) iz⟩
      · cases e
    · cases e
  · cases e⟩

/-- isinstance(e, C), an instance of C; isinstance(e, int), isinstance(e, bool) of an int -/
def dIsO (c : Nat) (f : DP) : DP := fun env => match f env with
  | some (.obj c1 _ _) => if c1 = c then some (.bl true) else none
  | _ => none
def dIsI (b : Bool) (f : DP) : DP := fun env => match f env with
  | some (.int _) => some (.bl b)
  | _ => none
structure IsC (K : PySem.W.Frag) (C : Addr) : Prop where
  cl : Cls K C
  ca : PySem.W.findIn K (.ref C) "__class__" = some (some (.builtin "object.__class__"))
  cg : PySem.W.specialIn K (.builtin "object.__class__") "__get__" = some (some (.builtin "getset_descriptor.__get__"))
  ct : PySem.W.takesIn K (.builtin "object.__class__") = some true
  cm : PySem.W.mroIn K C (.type "object") = some true
theorem r_isO {cn : Str} {cp : Pos} (hC : IsC X.K (cls c)) (hg : Gl X "isinstance") (hm : X.mg "isinstance" = none) (hgc : Gl X cn) (hmc : X.mg cn = some (.ref (cls c))) (ha : PE X a (tD (tbX X cls) B fa)) (hcd : (cn == ("__debug__" : Str)) = false := by decide)
    (he : starEach [a, .Name cn cp] X.env = (false, eval a X.env) :: starEach [.Name cn cp] X.env := by rfl) (he2 : starEach [.Name cn cp] X.env = (false, eval (.Name cn cp) X.env) :: starEach [] X.env := by rfl) (hpl : (backTo pos (starEach [.Name cn cp] X.env)).any (·.1) = false := by rfl) :
    PE X (.Call (.Name "isinstance" p) [a, .Name cn cp] [] pos) (tD (tbX X cls) B (dIsO c fa)) :=
  weakE (pe_callB (id := "isinstance") call_isi hg hm (by rfl) (pa_cons ha (pa_cons (pe_glob hgc hmc (v := .ref (cls c)) rfl hcd) pa_nil he2) he) (he := he) (hpl := hpl)) fun σ H Q ⟨F, env, d, r, e, k⟩ => by
  unfold dIsO at e
  split at e
  · rename_i c1 ns ds q
    split at e
    · rename_i hc
      subst hc
      cases e
      refine ⟨F, env, _, r, q, fun F1 H1 v g1 iv => ?_⟩
      simp only [Is] at iv
      obtain ⟨ad, dx, gs, rfl, hh, _⟩ := iv
      exact ⟨_, _, _, _, true, rfl, .own _, .base (.ins (g1.fh _ _ hh) hC.cl hC.ca hC.cg hC.ct hC.cm), if_pos (beq_self_eq_true _), k F1 H1 _ g1 (by simp only [Is])⟩
    · cases e
  · cases e
theorem r_isI {cn : Str} {cp : Pos} {tn : String} {ans : Bool} (hk : kitB "int" tn = some ans) (hv : bootBuiltins cn = some (.type tn)) (hg : Gl X "isinstance") (hm : X.mg "isinstance" = none) (hgc : Gl X cn) (hmc : X.mg cn = none) (hgt : PE X (.Name cn cp) (tC (.ty tn))) (ha : PE X a (tD (tbX X cls) B fa))
    (he : starEach [a, .Name cn cp] X.env = (false, eval a X.env) :: starEach [.Name cn cp] X.env := by rfl) (he2 : starEach [.Name cn cp] X.env = (false, eval (.Name cn cp) X.env) :: starEach [] X.env := by rfl) (hpl : (backTo pos (starEach [.Name cn cp] X.env)).any (·.1) = false := by rfl) :
    PE X (.Call (.Name "isinstance" p) [a, .Name cn cp] [] pos) (tD (tbX X cls) B (dIsI ans fa)) :=
  weakE (pe_callB (id := "isinstance") call_isi hg hm (by rfl) (pa_cons ha (pa_cons hgt pa_nil he2) he) (he := he) (hpl := hpl)) fun σ H Q ⟨F, env, d, r, e, k⟩ => by
  unfold dIsI at e
  split at e
  · rename_i i q
    cases e
    refine ⟨F, env, _, r, q, fun F1 H1 v g1 iv => ?_⟩
    simp only [Is] at iv
    subst iv
    exact ⟨_, _, _, _, ans, rfl, .ty tn, .base (.int i), kit_ty hk, k F1 H1 _ g1 (by simp only [Is])⟩
  · cases e
end
end Pd

/-! Pd: static methods; properties. -/
namespace Pd
open PySem PySem.Spec PyProof.Rows L2

/-- C.m is a static method: its record at q, its def at g -/
structure SMet (K : PySem.W.Frag) (C : Addr) (mc : Value) (m : Str) (q g : Addr) : Prop where
  rd : PySem.W.readsIn K C mc = true
  ga : PySem.W.specialIn K (.ref C) "__getattribute__" = some (some (.builtin "type.__getattribute__"))
  at_ : PySem.W.findCls K (.ref C) mc m = some (.get (.builtin "staticmethod.__get__") (.ref q) .none (.ref C))
  rc : ∃ rest, PySem.W.recIn K q "staticmethod" = some (.ref g :: rest)
  kp : PySem.W.keepIn K (.ref g) = true
section
variable {X : Cx} {cls : Nat → Addr} {B : Base} {W : Nat → Hp → Prop} {e o a b : Expr} {es : List Expr} {pos p apos : Pos} {f fa fb fo : DP} {fr : DPs} {c i n lv : Nat} {name x mn : Str} {CX : CXT} {fA C q pA : Addr} {fd : FuncData} {ps : List Str} {dvs : List V} {dvv : List Value} {dd : List D} {m : List D → Option D} {mc : Value}

theorem r_stat {pl : Sem Bool} (S : SMet X.K C mc mn q fA) (hgc : Gl X x) (hmc : X.mg x = some (.ref C)) (G : FnOk X.prog X.w X.K X.mg X.base CX lv fA fd ps (spD (tbX X cls) n m)) (hr : Room lv X.A) (hb : Binds X.K fd ps dvv) (hd : Vals dvs dvv) (hdd : ∀ F, IsL (tbX X cls) F dvs dd) (hx : Passes CX X E0)
    (ha : PA X (e :: es) (tAs (tbX X cls) B fr)) (hcd : (x == ("__debug__" : Str)) = false := by decide) (hst : starEach (e :: es) X.env = (false, eval e X.env) :: starEach es X.env := by rfl) (hpl : (backTo pos (starEach es X.env)).any (·.1) = false := by rfl)
    (ht : eval (.Call (.Attribute (.Name x p) mn apos) (e :: es) [] pos) X.env = (do
      let ov ← eval (.Name x p) X.env
      standAt apos.atName
      let (f, first) ← holding [ov] (getMethod ov mn pl)
      callWith pos f first (backTo pos (starEach (e :: es) X.env)) (backToKw pos (keywordEach [] X.env))) := by rfl) :
    PE X (.Call (.Attribute (.Name x p) mn apos) (e :: es) [] pos) (tD (tbX X cls) B (dCall n m dd fr)) := ⟨fun pins s σ H Q I h => by
  refine PySem.W.methodCall_KW (pl := pl) (thn ((pe_glob hgc hmc (v := .ref C) rfl hcd).run pins s σ H (fun v H1 => v = .ref C ∧ H1 = H) I ⟨rfl, rfl⟩) fun u s1 ⟨v, H1, I1, rv, ev, eH⟩ => ?_) ht
  subst ev eH
  obtain rfl : u = Value.ref C := rv
  obtain ⟨rest, hrc⟩ := S.rc
  refine PySem.W.method_cls I1.kIn S.ga (PySem.W.cls_bind I1.kIn S.rd S.at_ (wpAny_call (PySem.W.sm_get (s := { s1 with toks := s1.toks + 1 }) I1.kIn hrc (PySem.W.handed_on rfl ?_))))
  have I2 := I1.tok (s1.toks + 1)
  have q := tCall_of (E := E0) hdd h
  exact PySem.W.callWith_K (first := []) (h₀ := X.base) I.ok.mod.kin S.kp (thn (ha.run pos pins _ σ _ _ I2 q) fun us s2 ⟨vs, H2, I3, r, q2⟩ => ⟨I3.kIn, run_fn G hr hb hd hx I3 r q2⟩) hst hpl⟩

/-- e.f, a property of the own class number c -/
def dProp (c : Nat) (m : List D → Option D) (f : DP) : DP := fun env => match f env with
  | some (.obj c1 ns ds) => if c1 = c then m [.obj c1 ns ds] else none
  | _ => none
theorem r_prop (hc : Cls X.K (cls c)) (hp : PropOf X.K (cls c) name pA fA) (G : FnOk X.prog X.w X.K X.mg X.base CX lv fA fd ps (spD (tbX X cls) 1 m)) (hr : Room (lv + 1) X.A) (hb : Binds X.K fd ps []) (hx : Passes CX X.nox E0) (ha : PE X a (tD (tbX X cls) B fa))
    (hab : attributeBase a name X.env (eval a X.env) = eval a X.env := by rfl) : PE X (.Attribute a name pos) (tD (tbX X cls) B (dProp c m fa)) := weakE (pe_prop (E := E0) ha hc hp G hr hb .nil hx hab) fun σ H Q ⟨F, env, d, r, e, k⟩ => by
  unfold dProp at e
  split at e
  · rename_i c1 ns ds q
    split at e
    · rename_i hcc
      subst hcc
      refine ⟨F, env, _, r, q, fun F1 H1 v g1 iv => ?_⟩
      have iv' := iv
      simp only [Is] at iv
      obtain ⟨ad, dx, gs, rfl, hh, _⟩ := iv
      exact ⟨ad, dx, gs, rfl, g1.fh _ _ hh, F1, [_], d, g1.fh, IsL.cons iv' IsL.nil, rfl, e, fun F2 H2 w g2 iw => k F2 H2 w (g1.trans g2) iw⟩
    · cases e
  · cases e
end
end Pd

/-! Pd: data compared, sorted. -/
namespace Pd
open PySem PySem.Spec PyProof.Rows L2

mutual
def dpd : D → Option PyData
  | .non => some .none
  | .bl b => some (.bool b)
  | .int i => some (.int i)
  | .str s => some (.str s)
  | .tup xs => (dpds xs).map .tuple
  | .lst xs => (dpds xs).map .list
  | .dic _ _ => none
  | .dik _ _ => none
  | .obj _ _ _ => none
def dpds : List D → Option (List PyData)
  | [] => some []
  | d :: ds => match dpd d, dpds ds with
    | some p, some ps => some (p :: ps)
    | _, _ => none
end
mutual
theorem dp_of {X : Cx} {cls : Nat → Addr} {H : Hp} : ∀ (d : D) {v : V} {p : PyData}, Is (tbX X cls) H v d → dpd d = some p → Dp X.K H v p
  | .non, v, p, h, e => by simp only [Is] at h; rw [dpd] at e; cases e; subst h; exact .non
  | .bl b, v, p, h, e => by simp only [Is] at h; rw [dpd] at e; cases e; subst h; exact .bl b
  | .int b, v, p, h, e => by simp only [Is] at h; rw [dpd] at e; cases e; subst h; exact .int b
  | .str b, v, p, h, e => by simp only [Is] at h; rw [dpd] at e; cases e; subst h; exact .str b
  | .tup xs, v, p, h, e => by
    simp only [Is] at h; rw [dpd] at e
    obtain ⟨a, vs, rfl, h1, h2⟩ := h
    obtain ⟨ps, e1, rfl⟩ := Option.map_eq_some_iff.mp e
    exact .tup h1 (dps_of xs h2 e1)
  | .lst xs, v, p, h, e => by
    simp only [Is] at h; rw [dpd] at e
    obtain ⟨a, vs, rfl, h1, h2⟩ := h
    obtain ⟨ps, e1, rfl⟩ := Option.map_eq_some_iff.mp e
    exact .lst h1 (dps_of xs h2 e1)
  | .dic _ _, v, p, h, e => by rw [dpd] at e; cases e
  | .dik _ _, v, p, h, e => by rw [dpd] at e; cases e
  | .obj _ _ _, v, p, h, e => by rw [dpd] at e; cases e
theorem dps_of {X : Cx} {cls : Nat → Addr} {H : Hp} : ∀ (ds : List D) {vs : List V} {ps : List PyData}, IsL (tbX X cls) H vs ds → dpds ds = some ps → DpAll X.K H vs ps
  | [], vs, ps, h, e => by rw [dpds] at e; cases e; rw [h.nil_inv]; exact .nil
  | d :: ds, vs, ps, h, e => by
    obtain ⟨v, r, rfl, h1, h2⟩ := h.cons_inv
    rw [dpds] at e
    split at e
    · rename_i p qs e1 e2
      cases e
      exact .cons (dp_of d h1 e1) (dps_of ds h2 e2)
    · cases e
end
/-- == and != of data -/
def gEqD (ne : Bool) (x y : D) : Option D := match dpd x, dpd y with
  | some p, some q => if SeqAt.shaped p = true ∧ SeqAt.shaped q = true then some (.bl (xor ne (PyData.eqv p q))) else none
  | _, _ => none
section
variable {X : Cx} {cls : Nat → Addr}
theorem sEqD : OpS (tbX X cls) (rEqD X.K) (gEqD false) := fun F H x y dx dy d Q s ix iy e k => by
  unfold gEqD at e
  split at e
  · rename_i p q e1 e2
    split at e
    · rename_i hs
      cases e
      exact ⟨p, q, dp_of dx (ix.mono s) e1, dp_of dy (iy.mono s) e2, hs.1, hs.2, k F H _ (Grow.refl s) (by simp only [Is, Bool.false_xor])⟩
    · cases e
  · cases e
theorem sNeD : OpS (tbX X cls) (rNeD X.K) (gEqD true) := fun F H x y dx dy d Q s ix iy e k => by
  unfold gEqD at e
  split at e
  · rename_i p q e1 e2
    split at e
    · rename_i hs
      cases e
      exact ⟨p, q, dp_of dx (ix.mono s) e1, dp_of dy (iy.mono s) e2, hs.1, hs.2, k F H _ (Grow.refl s) (by simp only [Is, Bool.true_xor])⟩
    · cases e
  · cases e
end

/-! ### sorted -/
def dpD (d : D) : PyData := (dpd d).getD .none
def sortOk (xs : List D) : Bool := xs.all (fun d => (dpd d).isSome && decide ((dpD d).depth ≤ 8)) && xs.all (fun d => xs.all fun e => PySem.W.alike (dpD d) (dpD e)) &&
  (xs.all (fun d => match dpD d with
    | .tuple (_ :: _) => true
    | _ => false) || xs.all (fun d => match dpD d with
    | .tuple _ => false
    | .none => false
    | _ => true))
def sortD (xs : List D) : List D := xs.mergeSort (PySem.W.dataLe false dpD)
theorem sortOk_of {xs : List D} (h : sortOk xs = true) : (∀ d ∈ xs, ∃ p, dpd d = some p) ∧ PySem.W.AllAlike (xs.map dpD) ∧ PySem.W.Sortable (xs.map dpD) ∧ ∀ d ∈ xs, (dpD d).depth ≤ 8 := by
  unfold sortOk at h
  rw [Bool.and_eq_true, Bool.and_eq_true] at h
  obtain ⟨⟨h1, h2⟩, h3⟩ := h
  rw [List.all_eq_true] at h1 h2
  refine ⟨fun d hd => ?_, fun p hp q hq => ?_, ?_, fun d hd => ?_⟩
  · have := h1 d hd
    rw [Bool.and_eq_true] at this
    exact Option.isSome_iff_exists.mp this.1
  · obtain ⟨d, hd, rfl⟩ := List.mem_map.mp hp
    obtain ⟨e, he, rfl⟩ := List.mem_map.mp hq
    exact List.all_eq_true.mp (h2 d hd) e he
  · rw [Bool.or_eq_true, List.all_eq_true, List.all_eq_true] at h3
    rcases h3 with h3 | h3
    · refine .inl fun p hp => ?_
      obtain ⟨d, hd, rfl⟩ := List.mem_map.mp hp
      have := h3 d hd
      revert this
      cases dpD d with
      | tuple xs => cases xs with
        | nil => intro z; cases z
        | cons x r => intro _; exact ⟨x, r, rfl⟩
      | _ => intro z; cases z
    · refine .inr fun p hp => ?_
      obtain ⟨d, hd, rfl⟩ := List.mem_map.mp hp
      have := h3 d hd
      revert this
      cases dpD d with
      | tuple xs => intro z; cases z
      | none => intro z; cases z
      | bool _ => intro _; exact ⟨(by intro z; cases z), fun xs z => by cases z⟩
      | int _ => intro _; exact ⟨(by intro z; cases z), fun xs z => by cases z⟩
      | str _ => intro _; exact ⟨(by intro z; cases z), fun xs z => by cases z⟩
      | list _ => intro _; exact ⟨(by intro z; cases z), fun xs z => by cases z⟩
      | dict _ => intro _; exact ⟨(by intro z; cases z), fun xs z => by cases z⟩
  · have := h1 d hd
    rw [Bool.and_eq_true, decide_eq_true_eq] at this
    exact this.2
section
variable {prog : Program} {w : World} {A : Around} {E : Value → Shared → Prop} {s : Shared}
/-- what an iterable gives when it is gathered -/
def Gathers (prog : Program) (w : World) (A : Around) (s : Shared) (v : Value) (G : List Value → Prop) : Prop := ∀ (E : Value → Shared → Prop) (Q : List Value → Shared → Prop),
  (∀ h' tk acc, (∀ b o, s.heap.get? b = some o → h'.get? b = some o) → G acc → Q acc { s with heap := h', toks := tk }) → wpAny (model prog w) A (collect v) Q E s
/-- sorted(v): what is gathered, in a new list, sorted as data -/
theorem sorted_src {v : Value} {G : List Value → Prop} {β : Type} {enc : β → PyData} {R : Value → β → Prop} {bs : List β} {Q : Value → Shared → Prop} (hc : Gathers prog w A.in1 s v G) (hL : bs.length ≤ sizeLine)
    (hG : ∀ h' acc, (∀ b o, s.heap.get? b = some o → h'.get? b = some o) → G acc → PySem.W.EachIs R acc bs ∧ PySem.W.EachIs (fun u b => ∃ as, Reads h' u (enc b) as) acc bs) (hal : PySem.W.AllAlike (bs.map enc)) (hk : PySem.W.Sortable (bs.map enc)) (hu : ∀ b, b ∈ bs → A.units + 2 + (enc b).depth < cLine)
    (h : ∀ (h1 h' : Heap) (tk : Nat) (out : List Value) (n : Nat), (∀ b o, s.heap.get? b = some o → h1.get? b = some o) → (∀ b o, s.heap.get? b = some o → h'.get? b = some o) → h'.get? h1.objs.size = some { cls := .type "list", data := .seq out.toArray n } → out.length = bs.length → PySem.W.EachIs R out (bs.mergeSort (PySem.W.dataLe false enc)) →
      Q (.ref h1.objs.size) { s with heap := h', toks := tk }) : wpAny (model prog w) A (call (.builtin "sorted") [v]) Q E s := by
  refine Calls.call_function_entry kind_sorted plain_sorted entry_sorted (args_sorted1 _) ?_
  unfold Builtin.«sorted»
  refine wpAny_bind (m := checkCount "sorted" 1 1 _) (wpAny_pure ?_)
  refine wpAny_bind (hc _ _ fun h1 tk acc k1 ga => ?_)
  obtain ⟨e, er⟩ := hG h1 acc k1 ga
  have hz : acc.length ≤ sizeLine := by rw [e.length]; exact hL
  refine wpAny_bind (wpAny_newList ?_ hz)
  have hoL : (h1.push (seqObj "list" acc.toArray 0)).get? h1.objs.size = some (seqObj "list" acc.toArray 0) := Heap.get?_push_size _ rfl
  have old : ∀ {b : Addr} {o : Obj}, h1.get? b = some o → (PySem.W.sortingHeap (h1.push (seqObj "list" acc.toArray 0)) h1.objs.size acc).get? b = some o := fun {b o} z =>
    PySem.W.sortingHeap_old (Nat.ne_of_lt (Heap.lt_size z)) (Heap.get?_push_of_some _ z)
  have er' : PySem.W.EachIs (fun u b => ∃ as, Reads (PySem.W.sortingHeap (h1.push (seqObj "list" acc.toArray 0)) h1.objs.size acc) u (enc b) as) acc bs := er.mono fun _ _ ⟨as, r⟩ => ⟨as, PyProof.Rows.Reads.keeps (fun _ _ => old) r⟩
  obtain ⟨n, hn⟩ := sortedHeap_at (vs := acc) (out := (PySem.W.sortVals (PySem.W.dataKind (PySem.W.sortingHeap (h1.push (seqObj "list" acc.toArray 0)) h1.objs.size acc) (bs.map enc)) false acc acc).toArray) hoL
  refine wpAny_bind (wpAny_holding (wpAny_call_entry slot_list_sort ⟨_, hoL, rfl⟩ entry_list_sort
    (PySem.W.list_sort_vals (s := { s with heap := h1.push (seqObj "list" acc.toArray 0), toks := tk }) hoL (PySem.W.SortsAt.data (s := { s with heap := PySem.W.sortingHeap (h1.push (seqObj "list" acc.toArray 0)) h1.objs.size acc, toks := tk }) (PySem.W.each_map (R := fun u d => ∃ as, Reads (PySem.W.sortingHeap (h1.push (seqObj "list" acc.toArray 0)) h1.objs.size acc) u d as) enc er') hal hk (PySem.W.bound_map hu)) hz
      ⟨_, rfl, wpAny_pure ⟨_, rfl, h h1 _ _ _ n k1 (fun b o z => ?_) hn (by rw [PySem.W.sortVals_length false rfl]; exact e.length) (PySem.W.sortVals_data false e er' hal)⟩⟩) (args_list_sort _)))
  have hb : b < h1.objs.size := Heap.lt_size (k1 b o z)
  rw [sortedHeap_old (Nat.ne_of_lt hb) (by rw [size_push']; exact Nat.lt_succ_of_lt hb)]
  exact Heap.get?_push_of_some _ (k1 b o z)
end
end Pd

/-! Pd: what is gathered; sorted, list, tuple. -/
namespace Pd
open PySem PySem.Spec PyProof.Rows L2

def srcD : D → Option (List D)
  | .lst xs => some xs
  | .tup xs => some xs
  | .str s => some (charsD s)
  | .dic ks _ => some ks
  | _ => none
theorem pairedR {α β : Type} {R : α → β → Prop} : ∀ {l : List α} {m : List β}, Paired R l m → ∀ {j : Nat} {b : β}, m[j]? = some b → ∃ a, l[j]? = some a ∧ R a b
  | _, _, .nil, j, b, h => by simp at h
  | a :: _, _, .cons r t, 0, b, h => by
    have e := Option.some.inj h
    subst e
    exact ⟨a, rfl, r⟩
  | _ :: _, _, .cons _ t, j + 1, b, h => pairedR t (j := j) (by simpa using h)
section
variable {X : Cx} {cls : Nat → Addr} {pins : List (Addr × Obj)} {σ : L2.St} {H F : Hp} {s : Shared} {A : Around}
theorem items_list {P : Nat → Value → Prop} {acc : Array Value} {n : Nat} (h : ItemsOf P acc n) : acc.toList.length = n ∧ ∀ j v, acc.toList[j]? = some v → P j v := ⟨by rw [Array.length_toList]; exact h.1, fun j v e => h.2 j v (by rw [← Array.getElem?_toList]; exact e)⟩
theorem vals_of_items : ∀ {us : List Value} {vs : List V}, us.length = vs.length → (∀ (j : Nat) (u : Value), us[j]? = some u → ∃ v, vs[j]? = some v ∧ L2.RelV v u) → Vals vs us
  | [], [], _, _ => .nil
  | u :: us, v :: vs, hl, h => by
    obtain ⟨w, e, r⟩ := h 0 u rfl
    cases e
    exact .cons r (vals_of_items (by simpa using hl) fun j x e => by simpa using h (j + 1) x (by simpa using e))
  | [], _ :: _, hl, _ => by simp at hl
  | _ :: _, [], hl, _ => by simp at hl
theorem own_lst {T : Tb} {v : V} {xs : List D} (sm : Same F H) (h : Pk T F H v (.lst xs)) : ∃ a vs, v = .ref a ∧ SqL T.K H a vs ∧ IsL T F vs xs := by
  rcases h with h | h
  · simp only [Is] at h
    obtain ⟨a, vs, e, h1, h2⟩ := h
    exact ⟨a, vs, e, sqL_mono sm h1, h2⟩
  · obtain ⟨a, vs, e, _, h1, h2⟩ := h
    exact ⟨a, vs, e, SqL.of h1, h2⟩
theorem pk_is {T : Tb} {v : V} {d : D} (h : Pk T F H v d) (hd : ∀ F H, ¬ OwnC T F H v d) : Is T F v d := by
  rcases h with h | h
  · exact h
  · exact absurd h (hd F H)
/-- what an iterable gives, gathered -/
theorem gath (I : Inv X pins σ H s) (sm : Same F H) {v : V} {u : Value} {dx : D} {xs : List D} (rv : L2.RelV v u) (h : Pk (tbX X cls) F H v dx) (hs : srcD dx = some xs) (hl : xs.length ≤ smallL) (hA : A.handled = none) :
    ∃ G : List Value → Prop, Gathers X.prog X.w A s u G ∧ ∀ acc, G acc → ∃ vs, Vals vs acc ∧ IsL (tbX X cls) F vs xs := by
  cases dx with
  | lst ys =>
    cases hs
    obtain ⟨a, vs, rfl, h1, h2⟩ := own_lst sm h
    obtain rfl : u = Value.ref a := rv
    obtain ⟨its, rr, ⟨o, n, ho, hc, _, hd⟩, _⟩ := I.list h1
    refine ⟨fun acc => acc = its, fun E Q q => ?_, fun acc e => by subst e; exact ⟨vs, rr, h2⟩⟩
    have hz : its.toArray.size ≤ sizeLine := by rw [List.size_toArray, ← rr.length, h2.length]; exact small_line hl
    exact wpAny_collect_seq (hsz := hz) a (.inl rfl) ho hc hd fun h' k => q h' s.toks _ k (by simp)
  | tup ys =>
    cases hs
    have h' := pk_is h (fun _ _ z => z)
    simp only [Is] at h'
    obtain ⟨a, vs, rfl, h1, h2⟩ := h'
    obtain rfl : u = Value.ref a := rv
    obtain ⟨its, rr, ⟨o, ho, hc, n, hd⟩, _⟩ := I.tuple (sqT_mono sm h1)
    refine ⟨fun acc => acc = its, fun E Q q => ?_, fun acc e => by subst e; exact ⟨vs, rr, h2⟩⟩
    have hz : its.toArray.size ≤ sizeLine := by rw [List.size_toArray, ← rr.length, h2.length]; exact small_line hl
    exact wpAny_collect_seq (hsz := hz) a (.inr rfl) ho hc hd fun h' k => q h' s.toks _ k (by simp)
  | str x =>
    cases hs
    have h' := pk_is h (fun _ _ z => z)
    simp only [Is] at h'
    subst h'
    obtain ⟨t, rfl⟩ := rv
    have hn : x.cps.size ≤ sizeLine := small_line (by simpa [charsD] using hl)
    refine ⟨fun acc => acc.length = x.cps.size ∧ ∀ j u, acc[j]? = some u → SignAt x j u, fun E Q q => ?_, fun acc ⟨e1, e2⟩ => ?_⟩
    · refine wpAny_collect_str (hn := hn) hA x t fun s' acc k g1 g2 g3 ia => ?_
      obtain ⟨hp', gg, dd, tk, oo⟩ := s'
      simp only at g1 g2 g3
      subst g1 g2 g3
      exact q hp' tk _ k (items_list ia)
    · refine ⟨x.cps.toList.map fun c => V.str ⟨#[c]⟩, vals_of_items (by simpa using e1) fun j u e => ?_, ?_⟩
      · obtain ⟨c, tt, h1, h2⟩ := e2 j u e
        refine ⟨.str ⟨#[c]⟩, ?_, tt, h2⟩
        rw [List.getElem?_map, Array.getElem?_toList, h1]; rfl
      · unfold charsD
        generalize x.cps.toList = l
        induction l with
        | nil => exact IsL.nil
        | cons c l ih => exact IsL.cons (by simp only [Is]) ih
  | dic ks ds =>
    cases hs
    obtain ⟨a, es, rfl, h1, h2, h3, h4⟩ := pk_dic sm h
    obtain rfl : u = Value.ref a := rv
    obtain ⟨z, lo, hd, ys, ry, dd⟩ := nd_at I sm h1 h2 h3
    obtain ⟨o, en, ep, o1, o2, o3, o4, o5, o6⟩ := dd
    have size : en.size = xs.length := by
      have q1 := congrArg List.length o4
      have q2 := congrArg List.length h2
      rw [Array.length_toList, List.length_map, ← Paired.length ry] at q1
      rw [List.length_map, List.length_map] at q2
      omega
    refine ⟨fun acc => acc.length = en.size ∧ ∀ j u, acc[j]? = some u → ∃ hi : j < en.size, u = en[j].key, fun E Q q => ?_, fun acc ⟨e1, e2⟩ => ?_⟩
    · exact PySem.W.kdu_collect (PySem.KdlSrc.rawDict (es := en) (ep := ep) lo) hA ⟨o, o1, o2, o3⟩ (by rw [size]; exact small_line hl) fun h' tk acc k ia => q h' tk _ k (items_list ia)
    · refine ⟨es.map fun e => V.ref e.2.1, vals_of_items ?_ fun j u e => ?_, h3⟩
      · have q2 := congrArg List.length h2
        rw [List.length_map, List.length_map] at q2
        rw [List.length_map]; omega
      · obtain ⟨hi, rfl⟩ := e2 j u e
        have q3 : en.toList[j]? = some en[j] := by rw [Array.getElem?_toList, Array.getElem?_eq_getElem hi]
        rw [o4, List.getElem?_map] at q3
        obtain ⟨y, q4, q5⟩ := Option.map_eq_some_iff.mp q3
        obtain ⟨x', q6, q7⟩ := pairedR ry q4
        refine ⟨.ref x'.2.1, by rw [List.getElem?_map, q6]; rfl, ?_⟩
        rw [← q5, q7.2.1]
        exact rfl
  | non => cases hs
  | bl _ => cases hs
  | int _ => cases hs
  | dik _ _ => cases hs
  | obj _ _ _ => cases hs
end

/-! ### sorted -/
def dSorted (f : DP) : DP := fun env => match f env with
  | some d => match srcD d with
    | some xs => if xs.length ≤ smallL ∧ sortOk xs = true then some (.lst (sortD xs)) else none
    | none => none
  | none => none
section
variable {X : Cx} {cls : Nat → Addr} {B : Base} {e : Expr} {es : List Expr} {pos p : Pos} {f : DP}
theorem each_is {pins : List (Addr × Obj)} {σ : L2.St} {H F : Hp} {s : Shared} (I : Inv X pins σ H s) (sm : Same F H) {h' : Heap} (k : ∀ b o, s.heap.get? b = some o → h'.get? b = some o) : ∀ {xs : List D} {vs : List V} {us : List Value}, (∀ d ∈ xs, ∃ p, dpd d = some p) → IsL (tbX X cls) F vs xs → Vals vs us →
    PySem.W.EachIs (fun u d => ∃ v, L2.RelV v u ∧ Is (tbX X cls) F v d) us xs ∧ PySem.W.EachIs (fun u d => ∃ as, Reads h' u (dpD d) as) us xs
  | [], vs, us, hp, i, r => by
    rw [i.nil_inv] at r
    cases r
    exact ⟨.nil, .nil⟩
  | d :: xs, vs, us, hp, i, r => by
    obtain ⟨v, vr, rfl, i1, i2⟩ := i.cons_inv
    cases r with
    | cons r1 r2 =>
      obtain ⟨a1, a2⟩ := each_is I sm k (fun e he => hp e (List.mem_cons_of_mem _ he)) i2 r2
      obtain ⟨q, hq⟩ := hp d List.mem_cons_self
      obtain ⟨as, hr⟩ := Dp.reads I q v _ (dp_of d (i1.mono sm) hq) r1
      have eq : dpD d = q := by unfold dpD; rw [hq]; rfl
      exact ⟨.cons ⟨v, r1, i1⟩ a1, .cons ⟨as, by rw [eq]; exact PyProof.Rows.Reads.keeps k hr⟩ a2⟩
theorem each_back {T : Tb} {F : Hp} : ∀ {us : List Value} {xs : List D}, PySem.W.EachIs (fun u d => ∃ v, L2.RelV v u ∧ Is T F v d) us xs → ∃ vs, Vals vs us ∧ IsL T F vs xs
  | [], [], .nil => ⟨[], .nil, IsL.nil⟩
  | u :: us, d :: xs, .cons h t => by
    obtain ⟨v, r, i⟩ := h
    obtain ⟨vs, r2, i2⟩ := each_back t
    exact ⟨v :: vs, .cons r r2, IsL.cons i i2⟩
def rSortD (T : Tb) : List V → Hp → VK → Prop := fun vs H Q => ∃ F v dx xs, vs = [v] ∧ Same F H ∧ Pk T F H v dx ∧ srcD dx = some xs ∧ xs.length ≤ smallL ∧ sortOk xs = true ∧ ∀ p ws, H p = none → IsL T F ws (sortD xs) → Q (.ref p) (upd H p (.lst ws))
theorem call_sortD (calm : X.calm = true) (hu : X.A.units + 64 < cLine) : CallR X (.builtin "sorted") (rSortD (tbX X cls)) := by
  intro pins s σ H vs us Q I r h
  obtain ⟨F, v, dx, xs, rfl, sm, pk, hs, hl, ok, q⟩ := h
  obtain ⟨u, rfl, rv⟩ := vals1 r
  obtain ⟨o1, o2, o3, o4⟩ := sortOk_of ok
  obtain ⟨G, hG, gG⟩ := gath (A := X.A.in1) I sm rv pk hs hl (I.ok.hd calm)
  refine sorted_src (bs := xs) (enc := dpD) (R := fun u d => ∃ v, L2.RelV v u ∧ Is (tbX X cls) F v d) hG (small_line hl) (fun h' acc k ga => ?_) o2 o3 (fun d hd => ?_) fun h1 h' tk out n k1 k2 ho hlen eo => ?_
  · obtain ⟨ws, r2, i2⟩ := gG acc ga
    exact each_is I sm k o1 i2 r2
  · have := o4 d hd
    omega
  · obtain ⟨ws, r2, i2⟩ := each_back eo
    have I1 : Inv X pins σ H { s with heap := h1, toks := tk } := I.kept k1
    have fr : H h1.objs.size = none := I1.hok.fresh (Nat.le_refl _)
    have I2 : Inv X pins σ H { s with heap := h', toks := tk } := I.kept k2
    have hlt := Heap.lt_size ho
    refine ⟨.ref h1.objs.size, upd H h1.objs.size (.lst ws), ?_, rfl, q _ ws fr i2⟩
    have F0 := I1.fpOk (b := h1.objs.size) (Nat.le_refl _) fr
    exact I2.take (h' := h') (t' := tk) (fun b ob _ e => e) F0 ⟨by rw [r2.length, hlen]; exact small_line hl, out, n, r2, ho⟩
theorem r_sorted (calm : X.calm = true) (hu : X.A.units + 64 < cLine) (hg : Gl X "sorted") (hm : X.mg "sorted" = none) (ha : PE X e (tP (tbX X cls) B f)) (he : starEach [e] X.env = [(false, eval e X.env)] := by rfl) (hpl : (backTo pos (starEach [] X.env)).any (·.1) = false := by rfl) :
    PE X (.Call (.Name "sorted" p) [e] [] pos) (tO (tbX X cls) B (dSorted f)) := weakE (pe_callB (id := "sorted") (call_sortD (cls := cls) calm hu) hg hm (by rfl) (pa_cons ha pa_nil he) (he := he) (hpl := hpl)) fun σ H Q ⟨F, env, d, r, e, k⟩ => by
  unfold dSorted at e
  split at e
  · rename_i dx q
    split at e
    · rename_i xs hs
      split at e
      · rename_i hc
        cases e
        refine ⟨F, env, dx, r, q, fun F1 H1 v g1 pk => ⟨F1, v, dx, xs, rfl, g1.fh, pk, hs, hc.1, hc.2, fun a ws ha iw => ?_⟩⟩
        have hF : F1 a = none := g1.fh.free ha
        exact k F1 _ a (g1.trans (Grow.side g1.fh ha)) ⟨a, ws, rfl, hF, upd_same, iw⟩ (g1.hh.free ha)
      · cases e
    · cases e
  · cases e
end
end Pd

/-! Pd: operators on texts and sequences, subscripts, slices, built-in functions and methods. -/
namespace Pd
open PySem PySem.Spec PyProof.Rows L2

section
variable {X : Cx} {cls : Nat → Addr} {B : Base} {W : Nat → Hp → Prop} {e o a b : Expr} {es : List Expr} {pos p p2 apos cpos pos' : Pos} {f fa fb fo fi : DP} {fr : DPs} {i n : Nat} {x : Str}

/-! ### + -/
def rCatL (K : PySem.W.Frag) : R2 := fun x y H Q => ∃ a b xs ys, x = .ref a ∧ y = .ref b ∧ SqL K H a xs ∧ SqL K H b ys ∧ xs.length + ys.length ≤ sizeLine ∧ ∀ p, H p = none → Q (.ref p) (upd H p (.lst (xs ++ ys)))
theorem op_catL : OpR X (binaryOp .Add) (rCatL X.K) := by
  intro pins s σ H x y v u Q I rx ry h
  obtain ⟨a, b, xs, ys, rfl, rfl, ha, hb, hz, q⟩ := h
  obtain rfl : v = Value.ref a := rx
  obtain rfl : u = Value.ref b := ry
  obtain ⟨its, r1, ⟨⟨c1, d1, t1, l1⟩, n1, o1, k1, m1, e1⟩, _⟩ := I.list ha
  obtain ⟨its2, r2, ⟨⟨c2, d2, t2, l2⟩, n2, o2, k2, m2, e2⟩, _⟩ := I.list hb
  simp only at k1 e1 k2 e2
  subst k1 e1 k2 e2
  have hz' : its.length + its2.length ≤ sizeLine := by rw [← r1.length, ← r2.length]; exact hz
  refine concat_meets ⟨_, o1, rfl⟩ ⟨_, o2, rfl⟩ noFill_list_add seq_list_add PySem.F.slot_list_add PySem.F.entry_list_add (PySem.F.args_list_add_2 _ _)
    (list_addW a b its.toArray its2.toArray n1 n2 d1 d2 l1 l2 (by simpa using hz')) ⟨o1, o2, ?_⟩
  have e : its.toArray ++ its2.toArray = (its ++ its2).toArray := by simp
  rw [e]
  exact ⟨.ref _, _, I.lnew (t' := s.toks) (r1.append r2) (by rw [List.length_append]; exact hz), rfl, q _ I.fresh⟩
def gAdd : D → D → Option D
  | .int i, .int j => some (.int (i + j))
  | .str a, .str b => if a.length + b.length ≤ smallL then some (.str (a ++ b)) else none
  | .lst xs, .lst ys => if xs.length + ys.length ≤ smallL then some (.lst (xs ++ ys)) else none
  | .tup xs, .tup ys => if xs.length + ys.length ≤ smallL then some (.tup (xs ++ ys)) else none
  | _, _ => none
def rAdd (K : PySem.W.Frag) : R2 := fun x y H Q => rI0 (fun i j => .int (i + j)) x y H Q ∨ (∃ i j, x = .str i ∧ y = .str j ∧ i.length + j.length ≤ sizeLine ∧ Q (.str (i ++ j)) H) ∨ rCatL K x y H Q ∨ rCatA K x y H Q
theorem op_addG : OpR X (binaryOp .Add) (rAdd X.K) := op_add.or (op_add_str.or (op_catL.or op_catA))
theorem sAdd : OpS (tbX X cls) (rAdd X.K) gAdd := fun F H x y dx dy d Q s ix iy e k => by
  unfold gAdd at e
  split at e
  · rename_i i j
    cases e
    simp only [Is] at ix iy
    exact .inl ⟨i, j, ix, iy, k F H _ (Grow.refl s) (by simp only [Is])⟩
  · rename_i i j
    split at e
    · rename_i hz
      cases e
      simp only [Is] at ix iy
      exact .inr (.inl ⟨i, j, ix, iy, small_line hz, k F H _ (Grow.refl s) (by simp only [Is])⟩)
    · cases e
  · rename_i xs ys
    split at e
    · rename_i hz
      cases e
      simp only [Is] at ix iy
      obtain ⟨a, vs, rfl, h1, h2⟩ := ix
      obtain ⟨b, ws, rfl, h3, h4⟩ := iy
      refine .inr (.inr (.inl ⟨a, b, vs, ws, rfl, rfl, sqL_mono s h1, sqL_mono s h3, small_line (by rw [h2.length, h4.length]; exact hz), fun p hp => ?_⟩))
      have g := Grow.new (o := HO.lst (vs ++ ws)) s hp
      refine k _ _ _ g ?_
      simp only [Is]
      exact ⟨p, _, rfl, SqL.of upd_same, (h2.append h4).mono g.ff⟩
    · cases e
  · rename_i xs ys
    split at e
    · rename_i hz
      cases e
      have jx := ix
      have jy := iy
      simp only [Is] at ix iy
      obtain ⟨a, vs, rfl, h1, h2⟩ := ix
      obtain ⟨b, ws, rfl, h3, h4⟩ := iy
      refine .inr (.inr (.inr ⟨a, b, vs, ws, rfl, rfl, sqT_mono s h1, sqT_mono s h3, small_line (by rw [h2.length, h4.length]; exact hz), fun z => ?_, fun z1 z2 => ?_, fun z1 z2 p hp => ?_⟩))
      · subst z
        have : xs = [] := List.eq_nil_of_length_eq_zero h2.length.symm
        subst this
        exact k F H _ (Grow.refl s) jy
      · subst z2
        have : ys = [] := List.eq_nil_of_length_eq_zero h4.length.symm
        subst this
        rw [List.append_nil] at k
        exact k F H _ (Grow.refl s) jx
      · have g := Grow.new (o := HO.tup (vs ++ ws)) s hp
        refine k _ _ _ g ?_
        simp only [Is]
        exact ⟨p, _, rfl, SqT.of upd_same, (h2.append h4).mono g.ff⟩
    · cases e
  · cases e
theorem r_add (ha : PE X a (tD (tbX X cls) B fa)) (hb : PE X b (tD (tbX X cls) B fb)) : PE X (.BinOp a .Add b pos) (tD (tbX X cls) B (dBin gAdd fa fb)) := r_bin op_addG sAdd ha hb
theorem r_sub (ha : PE X a (tD (tbX X cls) B fa)) (hb : PE X b (tD (tbX X cls) B fb)) : PE X (.BinOp a .Sub b pos) (tD (tbX X cls) B (dBin (gI fun i j => i - j) fa fb)) := r_bin op_sub sI ha hb

/-! ### * // % & -/
def repS (x : Str) (n : Int) : Str := if n < 1 then Str.empty else if (n == 1 || x.length == 0) = true then x else ⟨(List.replicate n.toNat x.cps).foldl (· ++ ·) #[]⟩
theorem rep_size (a : Array Nat) : ∀ (k : Nat) (acc : Array Nat), ((List.replicate k a).foldl (· ++ ·) acc).size = acc.size + k * a.size
  | 0, acc => by simp
  | k + 1, acc => by
    rw [List.replicate_succ, List.foldl_cons, rep_size a k, Array.size_append, Nat.succ_mul]
    omega
def rRepS : R2 := fun x y H Q => ∃ s n, x = .str s ∧ y = .int n ∧ n.natAbs ≤ smallL ∧ s.length * n.toNat ≤ smallL ∧ Q (.str (repS s n)) H
theorem op_repS : OpR X (binaryOp .Mult) rRepS := by
  intro pins s σ H x y v u Q I rx ry h
  obtain ⟨z, n, rfl, rfl, hn, hz, q⟩ := h
  obtain ⟨t, rfl⟩ := rx
  obtain ⟨t', rfl⟩ := ry
  have sm : smallL = 100000 := rfl
  refine PySem.P.mul_str (by simp only [Bool.or_eq_false_iff, decide_eq_false_iff_not]; omega) (fun h1 h2 => ?_) (fun h1 h2 => ?_) ?_
  · have h3 : 1 ≤ n := by omega
    have h4 : z.length ≤ smallL := by
      refine Nat.le_trans ?_ hz
      exact Nat.le_mul_of_pos_right _ (by omega)
    have h5 : (2 ^ 63 - 1) / (100000 : Int) ≤ (2 ^ 63 - 1) / n := by
      apply Int.le_ediv_of_mul_le (by omega)
      have : (2 ^ 63 - 1) / (100000 : Int) * n ≤ (2 ^ 63 - 1) / (100000 : Int) * 100000 := by
        apply Int.mul_le_mul_of_nonneg_left (by omega) (by decide)
      have h6 : (2 ^ 63 - 1) / (100000 : Int) * 100000 ≤ 2 ^ 63 - 1 := by decide
      omega
    have h6 : (100000 : Int) ≤ (2 ^ 63 - 1) / (100000 : Int) := by decide
    omega
  · have hl := small_line hz
    unfold Builtin.Str.tooLong
    exact decide_eq_false (by omega)
  · unfold repS at q
    split
    · rename_i h1
      rw [if_pos h1] at q
      exact ⟨by decide, .str _, H, I.tok _, ⟨_, rfl⟩, q⟩
    · rename_i h1
      rw [if_neg h1] at q
      split
      · rename_i h2
        rw [if_pos h2] at q
        exact ⟨.str _, H, I, ⟨_, rfl⟩, q⟩
      · rename_i h2
        rw [if_neg h2] at q
        refine ⟨?_, .str _, H, I.tok _, ⟨_, rfl⟩, q⟩
        show ((List.replicate n.toNat z.cps).foldl (· ++ ·) #[]).size ≤ sizeLine
        rw [rep_size, Nat.mul_comm]
        exact Nat.le_trans (by simp [Str.length]) (small_line hz)
end
end Pd

/-! Pd: operators, subscripts, slices, built-in functions (2). -/
namespace Pd
open PySem PySem.Spec PyProof.Rows L2

section
variable {X : Cx} {cls : Nat → Addr} {B : Base} {W : Nat → Hp → Prop} {e o a b : Expr} {es : List Expr} {pos p p2 apos cpos pos' : Pos} {f fa fb fo fi : DP} {fr : DPs} {i n : Nat} {x : Str}
instance : ∀ i j, Decidable (CMulW i j) := fun i j => by unfold CMulW; infer_instance
instance : ∀ i j, Decidable (CDivW i j) := fun i j => by unfold CDivW; infer_instance
def gMul : D → D → Option D
  | .int i, .int j => if CMulW i j then some (.int (i * j)) else none
  | .str s, .int n => if n.natAbs ≤ smallL ∧ s.length * n.toNat ≤ smallL then some (.str (repS s n)) else none
  | _, _ => none
theorem sMul {T : Tb} : OpS T (fun x y H Q => rI CMulW (fun i j => .int (i * j)) x y H Q ∨ rRepS x y H Q) gMul := fun F H x y dx dy d Q s ix iy e k => by
  unfold gMul at e
  split at e
  · rename_i i j
    split at e
    · rename_i hc
      cases e
      simp only [Is] at ix iy
      exact .inl ⟨i, j, ix, iy, hc, k F H _ (Grow.refl s) (by simp only [Is])⟩
    · cases e
  · rename_i z n
    split at e
    · rename_i hc
      cases e
      simp only [Is] at ix iy
      exact .inr ⟨z, n, ix, iy, hc.1, hc.2, k F H _ (Grow.refl s) (by simp only [Is])⟩
    · cases e
  · cases e
theorem r_mul (ha : PE X a (tD (tbX X cls) B fa)) (hb : PE X b (tD (tbX X cls) B fb)) : PE X (.BinOp a .Mult b pos) (tD (tbX X cls) B (dBin gMul fa fb)) := r_bin (op_mulW.or op_repS) sMul ha hb
theorem r_fdiv (ha : PE X a (tD (tbX X cls) B fa)) (hb : PE X b (tD (tbX X cls) B fb)) : PE X (.BinOp a .FloorDiv b pos) (tD (tbX X cls) B (dBin (gIc CDivW fun i j => i / j) fa fb)) := r_bin op_fdivW sIc ha hb
theorem r_mod (ha : PE X a (tD (tbX X cls) B fa)) (hb : PE X b (tD (tbX X cls) B fb)) : PE X (.BinOp a .Mod b pos) (tD (tbX X cls) B (dBin (gIc (fun _ j => 0 < j) fun i j => i % j) fa fb)) := r_bin op_mod sIc ha hb
theorem r_and (ha : PE X a (tD (tbX X cls) B fa)) (hb : PE X b (tD (tbX X cls) B fb)) : PE X (.BinOp a .BitAnd b pos) (tD (tbX X cls) B (dBin (gI Builtin.bitAnd) fa fb)) := r_bin op_and sI ha hb

/-! ### comparisons -/
def gEqA (ne : Bool) (x y : D) : Option D := ((gEq x y).map fun b => .bl (xor ne b)).or (gEqD ne x y)
theorem sEqA : OpS (tbX X cls) (fun x y H Q => rEq x y H Q ∨ rEqD X.K x y H Q) (gEqA false) := by
  have z := OpS.or (sEq (T := tbX X cls)) sEqD
  unfold gEqA
  simp only [Bool.false_xor]
  exact z
theorem sNeA : OpS (tbX X cls) (fun x y H Q => rNe x y H Q ∨ rNeD X.K x y H Q) (gEqA true) := by
  have z := OpS.or (sNe (T := tbX X cls)) sNeD
  unfold gEqA
  simp only [Bool.true_xor]
  exact z
def gLt : D → D → Option D
  | .int i, .int j => some (.bl (decide (i < j)))
  | .str i, .str j => some (.bl (decide (i.cps.toList < j.cps.toList)))
  | _, _ => none
theorem sLt {T : Tb} : OpS T (fun x y H Q => rI0 (fun i j => .bl (decide (i < j))) x y H Q ∨ ∃ i j, x = .str i ∧ y = .str j ∧ Q (.bl (decide (i.cps.toList < j.cps.toList))) H) gLt := fun F H x y dx dy d Q s ix iy e k => by
  unfold gLt at e
  split at e
  · rename_i i j
    cases e
    simp only [Is] at ix iy
    exact .inl ⟨i, j, ix, iy, k F H _ (Grow.refl s) (by simp only [Is])⟩
  · rename_i i j
    cases e
    simp only [Is] at ix iy
    exact .inr ⟨i, j, ix, iy, k F H _ (Grow.refl s) (by simp only [Is])⟩
  · cases e
/-- the comparison rules as operators -/
structure CmpS (X : Cx) (cls : Nat → Addr) (op : CmpOp) (g : D → D → Option D) : Prop where
  ok : ∃ r, OpR X (compareOp op) r ∧ OpS (tbX X cls) r g
theorem c_eq (hu : X.A.units + 64 < cLine) : CmpS X cls .Eq (gEqA false) := ⟨_, op_eq.or (op_eqD hu), sEqA⟩
theorem c_ne (hu : X.A.units + 64 < cLine) : CmpS X cls .NotEq (gEqA true) := ⟨_, op_ne.or (op_neD hu), sNeA⟩
theorem c_lt : CmpS X cls .Lt gLt := ⟨_, op_lt.or op_lt_str, sLt⟩
theorem c_le : CmpS X cls .LtE (gIB fun i j => decide (i ≤ j)) := ⟨_, op_le, sIB⟩
theorem c_gt : CmpS X cls .Gt (gIB fun i j => decide (j < i)) := ⟨_, op_gt, sIB⟩
theorem c_ge : CmpS X cls .GtE (gIB fun i j => decide (j ≤ i)) := ⟨_, op_ge, sIB⟩
theorem r_cmpV {op : CmpOp} {g : D → D → Option D} (hc : CmpS X cls op g) (ha : PE X a (tD (tbX X cls) B fa)) (hb : PE X b (tD (tbX X cls) B fb)) (hm : behindInMarks op b = false := by first | exact nobehind _ (by decide) (by decide) | rfl) :
    PE X (.Compare a [op] [b] pos) (tD (tbX X cls) B (dBin g fa fb)) := let ⟨_, h1, h2⟩ := hc.ok; r_cmp h1 h2 ha hb hm
theorem r_cmpT {op : CmpOp} {g : D → D → Option D} (hc : CmpS X cls op g) (ha : PE X a (tD (tbX X cls) B fa)) (hb : PE X b (tD (tbX X cls) B fb)) (hm : behindInMarks op b = false := by first | exact nobehind _ (by decide) (by decide) | rfl) :
    PT X (.Compare a [op] [b] pos) (tTt (tbX X cls) B (dB (dBin g fa fb))) := let ⟨_, h1, h2⟩ := hc.ok; r_tcmp h1 h2 ha hb hm

/-! ### x[i] -/
def gIx : D → D → Option D
  | .lst xs, .int i => atI xs i
  | .tup xs, .int i => atI xs i
  | .str s, .int i => if s.length ≤ smallL then (atI s.cps.toList i).map fun c => .str ⟨#[c]⟩ else none
  | _, _ => none
theorem atI_is {T : Tb} {F : Hp} {vs : List V} {xs : List D} {i : Int} {d : D} (h : IsL T F vs xs) (e : atI xs i = some d) : ∃ v, atI vs i = some v ∧ Is T F v d := by
  unfold atI at e ⊢
  rw [h.length]
  cases q : ixN xs.length i with
  | none => rw [q] at e; cases e
  | some j =>
    rw [q] at e
    obtain ⟨v, h1, h2⟩ := h.get (show xs[j]? = some d from e)
    exact ⟨v, h1, h2⟩
theorem sIx : OpS (tbX X cls) (rIx X.K) gIx := fun F H x y dx dy d Q s ix iy e k => by
  unfold gIx at e
  split at e
  · rename_i xs i
    simp only [Is] at ix iy
    obtain ⟨a, vs, rfl, h1, h2⟩ := ix
    obtain ⟨v, h3, h4⟩ := atI_is h2 e
    exact .inl ⟨a, vs, i, v, rfl, iy, sqL_mono s h1, h3, k F H v (Grow.refl s) h4⟩
  · rename_i xs i
    simp only [Is] at ix iy
    obtain ⟨a, vs, rfl, h1, h2⟩ := ix
    obtain ⟨v, h3, h4⟩ := atI_is h2 e
    exact .inr (.inl ⟨a, vs, i, v, rfl, iy, sqT_mono s h1, h3, k F H v (Grow.refl s) h4⟩)
  · rename_i z i
    split at e
    · rename_i hz
      obtain ⟨c, h1, rfl⟩ := Option.map_eq_some_iff.mp e
      simp only [Is] at ix iy
      exact .inr (.inr ⟨z, i, c, ix, iy, small_line hz, h1, k F H _ (Grow.refl s) (by simp only [Is])⟩)
    · cases e
  · cases e
theorem r_ix (ha : PE X a (tD (tbX X cls) B fa)) (hb : PE X b (tD (tbX X cls) B fb)) (hs : PlainIx b := by intro _ _; rfl) : PE X (.Subscript a b pos) (tD (tbX X cls) B (dBin gIx fa fb)) := weakE (pe_ix ix_seq ha hb hs) fun _ _ _ h => tOp_of sIx h
/-- .. of an own list that is not read by others -/
def dIxO (i : Nat) (fb : DP) : DP := fun env => match env[i]? with
  | some (some (.lst xs, _)) => match fb env with
    | some (.int j) => atI xs j
    | _ => none
  | _ => none
theorem r_ixO {y : Str} {py : Pos} (ha : PE X (.Name y py) (tVar i)) (hb : PE X b (tD (tbX X cls) B fb)) (hs : PlainIx b := by intro _ _; rfl) : PE X (.Subscript (.Name y py) b pos) (tD (tbX X cls) B (dIxO i fb)) := weakE (pe_ix ix_seq ha hb hs) fun σ H Q ⟨F, env, d, r, e, k⟩ => by
  unfold dIxO at e
  split at e
  · rename_i xs fl q
    split at e
    · rename_i j q2
      obtain ⟨v, h1, h2, h3, _⟩ := r.sl i _ _ q
      refine ⟨v, h1, F, env, _, r, q2, fun F' H' y g iy => ?_⟩
      have pk : Pk (tbX X cls) F H v (.lst xs) := by
        by_cases z : fl = .fz
        · exact .inl (h2 z)
        · exact .inr (h3 z).1
      obtain ⟨ad, vs, rfl, h5, h6⟩ := own_lst g.fh (pk.grow g)
      obtain ⟨w, h7, h8⟩ := atI_is h6 e
      simp only [Is] at iy
      exact .inl ⟨ad, vs, j, w, rfl, iy, h5, h7, k F' H' w g h8⟩
    · cases e
  · cases e

/-! ### x[lo:hi] -/
abbrev DO := DEnv → Option (Option Int)
def tPt (T : Tb) (B : Base) (f : DO) : TO := fun σ H Q => ∃ F env oo, Rel T B F σ H env ∧ f env = some oo ∧ ∀ F' H', Grow F H F' H' → Q oo H'
def dNoP : DO := fun _ => some none
def dPt (f : DP) : DO := fun env => match f env with
  | some (.int i) => some (some i)
  | _ => none
theorem r_p0 : PO X none (tPt (tbX X cls) B dNoP) := ⟨fun pins s σ H Q I ⟨F, env, oo, r, e, k⟩ => by
  cases e
  exact po_none.run pins s σ H Q I (k F H (Grow.refl r.fh))⟩
theorem r_p1 (h : PE X e (tD (tbX X cls) B f)) : PO X (some e) (tPt (tbX X cls) B (dPt f)) := ⟨fun pins s σ H Q I ⟨F, env, oo, r, e, k⟩ => by
  unfold dPt at e
  split at e
  · rename_i i q
    cases e
    exact (po_some h).run pins s σ H Q I ⟨F, env, .int i, r, q, fun F' H' v g iv => ⟨i, by simpa only [Is] using iv, k F' H' g⟩⟩
  · cases e⟩
def cutD {α : Type} (xs : List α) (lo hi : Option Int) : List α := (xs.drop (HT.sIx xs.length 0 lo)).take (HT.sIx xs.length xs.length hi - HT.sIx xs.length 0 lo)
def gSl : D → Option Int → Option Int → Option D
  | .lst xs, lo, hi => some (.lst (cutD xs lo hi))
  | .tup xs, lo, hi => some (.tup (cutD xs lo hi))
  | .str s, lo, hi => if s.length ≤ smallL then some (.str ⟨(cutD s.cps.toList lo hi).toArray⟩) else none
  | _, _, _ => none
def dSl (f : DP) (lo hi : DO) : DP := fun env => match f env with
  | some d => match lo env with
    | some l => match hi env with
      | some h => gSl d l h
      | none => none
    | none => none
  | none => none
theorem cut_is {T : Tb} {F : Hp} {vs : List V} {xs : List D} (h : IsL T F vs xs) (lo hi : Option Int) : IsL T F (cutV vs lo hi) (cutD xs lo hi) := by
  unfold cutV cutD
  rw [h.length]
  exact (h.drop _).take _
theorem r_sl {lo hi : Option Expr} {fl fh : DO} (he : PE X e (tD (tbX X cls) B f)) (hl : PO X lo (tPt (tbX X cls) B fl)) (hh : PO X hi (tPt (tbX X cls) B fh)) : PE X (.Subscript e (.Slice lo hi none p2) pos) (tD (tbX X cls) B (dSl f fl fh)) :=
  weakE (pe_slice (sl_list.or (sl_tupA.or sl_str)) he hl hh) fun σ H Q ⟨F, env, d, r, e, k⟩ => by
  unfold dSl at e
  split at e
  · rename_i d0 q0
    split at e
    · rename_i l q1
      split at e
      · rename_i h q2
        refine ⟨F, env, d0, r, q0, fun F1 H1 v g1 iv => ⟨F1, env, l, r.grow g1, q1, fun F2 H2 g2 => ⟨F2, env, h, (r.grow g1).grow g2, q2, fun F3 H3 g3 => ?_⟩⟩⟩
        have g13 := (g1.trans g2).trans g3
        have iv3 := iv.mono (g2.ff.trans g3.ff)
        unfold gSl at e
        split at e
        · rename_i xs
          cases e
          simp only [Is] at iv3
          obtain ⟨a, vs, rfl, h1, h2⟩ := iv3
          refine .inl ⟨a, vs, rfl, sqL_mono g3.fh h1, fun p hp => ?_⟩
          have g4 := Grow.new (o := HO.lst (cutV vs l h)) g3.fh hp
          refine k _ _ _ (g13.trans g4) ?_
          simp only [Is]
          exact ⟨p, _, rfl, SqL.of upd_same, (cut_is h2 l h).mono g4.ff⟩
        · rename_i xs
          cases e
          have iv4 := iv3
          simp only [Is] at iv3
          obtain ⟨a, vs, rfl, h1, h2⟩ := iv3
          refine .inr (.inl ⟨a, vs, rfl, sqT_mono g3.fh h1, fun z => ?_, fun z p hp => ?_⟩)
          · have e : cutD xs l h = xs := by
              unfold cutD
              rw [← h2.length, z.1, z.2]
              simp [h2.length]
            rw [e] at k
            exact k F3 H3 _ g13 iv4
          · have g4 := Grow.new (o := HO.tup (cutV vs l h)) g3.fh hp
            refine k _ _ _ (g13.trans g4) ?_
            simp only [Is]
            exact ⟨p, _, rfl, SqT.of upd_same, (cut_is h2 l h).mono g4.ff⟩
        · rename_i z
          split at e
          · rename_i hz
            cases e
            simp only [Is] at iv3
            refine .inr (.inr ⟨z, iv3, small_line hz, k F3 H3 _ g13 ?_⟩)
            simp only [Is]
            rfl
          · cases e
        · cases e
      · cases e
    · cases e
  · cases e
end
end Pd

/-! Pd: built-in functions and methods. -/
namespace Pd
open PySem PySem.Spec PyProof.Rows L2

def dMap (g : D → Option D) (f : DP) : DP := fun env => match f env with
  | some d => g d
  | none => none
theorem dMap_some {g : D → Option D} {f : DP} {env : DEnv} {d : D} (h : dMap g f env = some d) : ∃ x, f env = some x ∧ g x = some d := by
  unfold dMap at h
  split at h
  · rename_i x e
    exact ⟨x, e, h⟩
  · cases h
/-- what a function of one argument gives on data (the argument may be an own thing) -/
def FunS (T : Tb) (r : List V → Hp → VK → Prop) (g : D → Option D) : Prop := ∀ (F H : Hp) (v : V) (dx d : D) (Q : VK), Same F H → Pk T F H v dx → g dx = some d → (∀ F' H' w, Grow F H F' H' → Is T F' w d → Q w H') → r [v] H Q
theorem FunS.or {T : Tb} {r r' : List V → Hp → VK → Prop} {g g' : D → Option D} (h : FunS T r g) (h' : FunS T r' g') : FunS T (fun xs H Q => r xs H Q ∨ r' xs H Q) (fun x => (g x).or (g' x)) := fun F H v dx d Q s pk e k => by
  dsimp only at e
  cases q : g dx with
  | some z => rw [q] at e; exact .inl (h F H v dx d Q s pk (by rw [q]; exact e) k)
  | none => rw [q] at e; exact .inr (h' F H v dx d Q s pk (by simpa using e) k)
section
variable {X : Cx} {cls : Nat → Addr} {B : Base} {W : Nat → Hp → Prop} {e o a b : Expr} {es : List Expr} {pos p p2 apos cpos pos' : Pos} {f fa fb fo fi : DP} {fr : DPs} {i n : Nat} {x : Str} {id T : String} {r : List V → Hp → VK → Prop} {g : D → Option D}
theorem tFun_of {σ : L2.St} {H : Hp} {Q : VK} (hg : FunS (tbX X cls) r g) (h : tD (tbX X cls) B (dMap g f) σ H Q) : tCB r (tCons (tP (tbX X cls) B f) tNil) σ H Q := by
  obtain ⟨F, env, d, r, e, k⟩ := h
  obtain ⟨x, e1, e2⟩ := dMap_some e
  exact ⟨F, env, x, r, e1, fun F1 H1 v g1 pk => hg F1 H1 v x d Q g1.fh pk e2 fun F2 H2 w g2 iw => k F2 H2 w (g1.trans g2) iw⟩
theorem r_fun1 (hc : CallR X (.builtin id) r) (hs : FunS (tbX X cls) r g) (hg : Gl X x) (hm : X.mg x = none) (hv : bootBuiltins x = some (.builtin id)) (ha : PE X e (tP (tbX X cls) B f)) (hn : x ≠ "__name__" := by decide) (hdb : (x == ("__debug__" : Str)) = false := by decide)
    (he : starEach [e] X.env = [(false, eval e X.env)] := by rfl) (hpl : (backTo pos (starEach [] X.env)).any (·.1) = false := by rfl) : PE X (.Call (.Name x p) [e] [] pos) (tD (tbX X cls) B (dMap g f)) :=
  weakE (pe_callB hc hg hm hv (pa_cons ha pa_nil he) hn hdb (he := he) (hpl := hpl)) fun _ _ _ h => tFun_of hs h
theorem r_ty1 (hc : CallR X (.type T) r) (hs : FunS (tbX X cls) r g) (hg : Gl X x) (hm : X.mg x = none) (hv : bootBuiltins x = some (.type T)) (ha : PE X e (tP (tbX X cls) B f)) (hn : x ≠ "__name__" := by decide) (hdb : (x == ("__debug__" : Str)) = false := by decide)
    (he : starEach [e] X.env = [(false, eval e X.env)] := by rfl) (hpl : (backTo pos (starEach [] X.env)).any (·.1) = false := by rfl) : PE X (.Call (.Name x p) [e] [] pos) (tD (tbX X cls) B (dMap g f)) :=
  weakE (pe_callTy hc hg hm hv (pa_cons ha pa_nil he) hn hdb (he := he) (hpl := hpl)) fun _ _ _ h => tFun_of hs h

/-! ### len, abs, int, sum, list, tuple -/
def gLen : D → Option D
  | .lst xs => some (.int xs.length)
  | .tup xs => some (.int xs.length)
  | .str s => if s.length ≤ smallL then some (.int s.length) else none
  | _ => none
theorem sLen : FunS (tbX X cls) (fun xs H Q => (∃ p ys, xs = [.ref p] ∧ (SqL X.K H p ys ∨ SqT X.K H p ys) ∧ Q (.int ys.length) H) ∨ ∃ z, xs = [.str z] ∧ z.length ≤ sizeLine ∧ Q (.int z.length) H) gLen := fun F H v dx d Q s pk e k => by
  unfold gLen at e
  split at e
  · rename_i xs
    cases e
    obtain ⟨a, vs, rfl, h1, h2⟩ := own_lst s pk
    exact .inl ⟨a, vs, rfl, .inl h1, k F H _ (Grow.refl s) (by rw [h2.length]; simp only [Is])⟩
  · rename_i xs
    cases e
    have pk := pk_is pk fun _ _ z => z
    simp only [Is] at pk
    obtain ⟨a, vs, rfl, h1, h2⟩ := pk
    exact .inl ⟨a, vs, rfl, .inr (sqT_mono s h1), k F H _ (Grow.refl s) (by rw [h2.length]; simp only [Is])⟩
  · rename_i z
    split at e
    · rename_i hz
      cases e
      have pk := pk_is pk fun _ _ z => z
      simp only [Is] at pk
      subst pk
      exact .inr ⟨z, rfl, small_line hz, k F H _ (Grow.refl s) (by simp only [Is])⟩
    · cases e
  · cases e
theorem r_len (hg : Gl X "len") (hm : X.mg "len" = none) (ha : PE X e (tP (tbX X cls) B f)) (he : starEach [e] X.env = [(false, eval e X.env)] := by rfl) (hpl : (backTo pos (starEach [] X.env)).any (·.1) = false := by rfl) :
    PE X (.Call (.Name "len" p) [e] [] pos) (tD (tbX X cls) B (dMap gLen f)) := r_fun1 (call_len_seq.or call_len_str) sLen hg hm (by rfl) ha (by decide) (by decide) he hpl
def gAbs : D → Option D
  | .int i => some (.int (if i < 0 then -i else i))
  | _ => none
theorem sAbs : FunS (tbX X cls) (fun xs H Q => ∃ i, xs = [.int i] ∧ Q (.int (if i < 0 then -i else i)) H) gAbs := fun F H v dx d Q s pk e k => by
  unfold gAbs at e
  split at e
  · rename_i i
    cases e
    have pk := pk_is pk fun _ _ z => z
    simp only [Is] at pk
    subst pk
    exact ⟨i, rfl, k F H _ (Grow.refl s) (by simp only [Is])⟩
  · cases e
theorem r_abs (hg : Gl X "abs") (hm : X.mg "abs" = none) (ha : PE X e (tP (tbX X cls) B f)) (he : starEach [e] X.env = [(false, eval e X.env)] := by rfl) (hpl : (backTo pos (starEach [] X.env)).any (·.1) = false := by rfl) :
    PE X (.Call (.Name "abs" p) [e] [] pos) (tD (tbX X cls) B (dMap gAbs f)) := r_fun1 call_abs sAbs hg hm (by rfl) ha (by decide) (by decide) he hpl
def gInt : D → Option D
  | .int i => some (.int i)
  | .bl b => some (.int (if b then 1 else 0))
  | _ => none
theorem sInt : FunS (tbX X cls) (fun xs H Q => (∃ i, xs = [.int i] ∧ Q (.int i) H) ∨ ∃ k, xs = [.bl k] ∧ Q (.int (if k then 1 else 0)) H) gInt := fun F H v dx d Q s pk e k => by
  unfold gInt at e
  split at e
  · rename_i i
    cases e
    have pk := pk_is pk fun _ _ z => z
    simp only [Is] at pk
    subst pk
    exact .inl ⟨i, rfl, k F H _ (Grow.refl s) (by simp only [Is])⟩
  · rename_i i
    cases e
    have pk := pk_is pk fun _ _ z => z
    simp only [Is] at pk
    subst pk
    exact .inr ⟨i, rfl, k F H _ (Grow.refl s) (by simp only [Is])⟩
  · cases e
theorem r_int1 (hg : Gl X "int") (hm : X.mg "int" = none) (ha : PE X e (tP (tbX X cls) B f)) (he : starEach [e] X.env = [(false, eval e X.env)] := by rfl) (hpl : (backTo pos (starEach [] X.env)).any (·.1) = false := by rfl) :
    PE X (.Call (.Name "int" p) [e] [] pos) (tD (tbX X cls) B (dMap gInt f)) := r_ty1 call_int1 sInt hg hm (by rfl) ha (by decide) (by decide) he hpl
def intsD : List D → Option (List Int)
  | [] => some []
  | .int i :: ds => match intsD ds with
    | some is => some (i :: is)
    | none => none
  | _ :: _ => none
theorem intsD_is {T : Tb} {F : Hp} : ∀ {ds : List D} {vs : List V} {is : List Int}, IsL T F vs ds → intsD ds = some is → vs = is.map V.int ∧ ds = is.map D.int
  | [], vs, is, h, e => by rw [intsD] at e; cases e; exact ⟨h.nil_inv, rfl⟩
  | d :: ds, vs, is, h, e => by
    obtain ⟨v, r, rfl, h1, h2⟩ := h.cons_inv
    cases d with
    | int i =>
      rw [intsD] at e
      split at e
      · rename_i js q
        cases e
        obtain ⟨e1, e2⟩ := intsD_is h2 q
        simp only [Is] at h1
        exact ⟨by rw [h1, e1]; rfl, by rw [e2]; rfl⟩
      · cases e
    | _ => cases e
def gSum : D → Option D
  | .lst xs => match intsD xs with
    | some is => some (.int is.sum)
    | none => none
  | _ => none
theorem sSum : FunS (tbX X cls) (rSum X.K) gSum := fun F H v dx d Q s pk e k => by
  unfold gSum at e
  split at e
  · rename_i xs
    split at e
    · rename_i is q
      cases e
      obtain ⟨a, vs, rfl, h1, h2⟩ := own_lst s pk
      obtain ⟨e1, _⟩ := intsD_is h2 q
      subst e1
      exact ⟨a, is, rfl, h1, k F H _ (Grow.refl s) (by simp only [Is])⟩
    · cases e
  · cases e
theorem r_sum (calm : X.calm = true) (hg : Gl X "sum") (hm : X.mg "sum" = none) (ha : PE X e (tP (tbX X cls) B f)) (he : starEach [e] X.env = [(false, eval e X.env)] := by rfl) (hpl : (backTo pos (starEach [] X.env)).any (·.1) = false := by rfl) :
    PE X (.Call (.Name "sum" p) [e] [] pos) (tD (tbX X cls) B (dMap gSum f)) := r_fun1 (cr_sum calm) sSum hg hm (by rfl) ha (by decide) (by decide) he hpl
/-- list(x) of a list or a tuple: a new list -/
def gList : D → Option D
  | .lst xs => some (.lst xs)
  | .tup xs => some (.lst xs)
  | _ => none
theorem r_list (hg : Gl X "list") (hm : X.mg "list" = none) (ha : PE X e (tP (tbX X cls) B f)) (he : starEach [e] X.env = [(false, eval e X.env)] := by rfl) (hpl : (backTo pos (starEach [] X.env)).any (·.1) = false := by rfl) :
    PE X (.Call (.Name "list" p) [e] [] pos) (tO (tbX X cls) B (dMap gList f)) := weakE (pe_callTy (T := "list") call_list_of hg hm (by rfl) (pa_cons ha pa_nil he) (he := he) (hpl := hpl)) fun σ H Q ⟨F, env, d, r, e, k⟩ => by
  obtain ⟨x, e1, e2⟩ := dMap_some e
  refine ⟨F, env, x, r, e1, fun F1 H1 v g1 pk => ?_⟩
  unfold gList at e2
  split at e2
  · rename_i xs
    cases e2
    obtain ⟨a, vs, rfl, h1, h2⟩ := own_lst g1.fh pk
    exact ⟨a, vs, rfl, .inl h1, fun l hl => k F1 _ l (g1.trans (Grow.side g1.fh hl)) ⟨l, vs, rfl, g1.fh.free hl, upd_same, h2⟩ (g1.hh.free hl)⟩
  · rename_i xs
    cases e2
    have pk := pk_is pk fun _ _ z => z
    simp only [Is] at pk
    obtain ⟨a, vs, rfl, h1, h2⟩ := pk
    exact ⟨a, vs, rfl, .inr (sqT_mono g1.fh h1), fun l hl => k F1 _ l (g1.trans (Grow.side g1.fh hl)) ⟨l, vs, rfl, g1.fh.free hl, upd_same, h2⟩ (g1.hh.free hl)⟩
  · cases e2
/-- tuple(x) of a list or a tuple -/
def gTuple : D → Option D
  | .lst xs => some (.tup xs)
  | .tup xs => some (.tup xs)
  | _ => none
theorem sTuple : FunS (tbX X cls) (fun xs H Q => ∃ p ys, xs = [.ref p] ∧ ((SqL X.K H p ys ∧ ∀ l, H l = none → Q (.ref l) (upd H l (.tup ys))) ∨ (SqT X.K H p ys ∧ Q (.ref p) H))) gTuple := fun F H v dx d Q s pk e k => by
  unfold gTuple at e
  split at e
  · rename_i xs
    cases e
    obtain ⟨a, vs, rfl, h1, h2⟩ := own_lst s pk
    refine ⟨a, vs, rfl, .inl ⟨h1, fun l hl => ?_⟩⟩
    have g := Grow.new (o := HO.tup vs) s hl
    refine k _ _ _ g ?_
    simp only [Is]
    exact ⟨l, vs, rfl, SqT.of upd_same, h2.mono g.ff⟩
  · rename_i xs
    cases e
    have pk := pk_is pk fun _ _ z => z
    have pk' := pk
    simp only [Is] at pk
    obtain ⟨a, vs, rfl, h1, h2⟩ := pk
    exact ⟨a, vs, rfl, .inr ⟨sqT_mono s h1, k F H _ (Grow.refl s) pk'⟩⟩
  · cases e
theorem r_tuple (hg : Gl X "tuple") (hm : X.mg "tuple" = none) (ha : PE X e (tP (tbX X cls) B f)) (he : starEach [e] X.env = [(false, eval e X.env)] := by rfl) (hpl : (backTo pos (starEach [] X.env)).any (·.1) = false := by rfl) :
    PE X (.Call (.Name "tuple" p) [e] [] pos) (tD (tbX X cls) B (dMap gTuple f)) := r_ty1 call_tuple_of sTuple hg hm (by rfl) ha (by decide) (by decide) he hpl
/-- math.gcd -/
def dGcd (fr : DPs) : DP := fun env => match fr env with
  | some [.int i, .int j] => some (.int ((Nat.gcd i.natAbs j.natAbs : Nat) : Int))
  | _ => none
theorem r_gcd (hg : Gl X x) (hm : X.mg x = some (.builtin "math.gcd")) (ha : PA X [a, b] (tAs (tbX X cls) B fr)) (hdb : (x == ("__debug__" : Str)) = false := by decide) (he : starEach [a, b] X.env = (false, eval a X.env) :: starEach [b] X.env := by rfl) (hpl : (backTo pos (starEach [b] X.env)).any (·.1) = false := by rfl) :
    PE X (.Call (.Name x p) [a, b] [] pos) (tD (tbX X cls) B (dGcd fr)) := weakE (pe_callBfun cr_gcd hg hm ha hdb he hpl) fun σ H Q ⟨F, env, d, r, e, k⟩ => by
  unfold dGcd at e
  split at e
  · rename_i i j q
    cases e
    refine ⟨F, env, _, r, q, fun F1 H1 vs g1 iv => ?_⟩
    obtain ⟨v, r', rfl, i1, i2⟩ := iv.cons_inv
    obtain ⟨w, r2, rfl, i3, i4⟩ := i2.cons_inv
    rw [i4.nil_inv]
    simp only [Is] at i1 i3
    subst i1 i3
    exact ⟨i, j, rfl, k F1 H1 _ g1 (by simp only [Is])⟩
  · cases e

/-! ### sep.join(texts) -/
def strsD : List D → Option (List Str)
  | [] => some []
  | .str i :: ds => match strsD ds with
    | some is => some (i :: is)
    | none => none
  | _ :: _ => none
theorem strsD_is {T : Tb} {F : Hp} : ∀ {ds : List D} {vs : List V} {is : List Str}, IsL T F vs ds → strsD ds = some is → vs = is.map V.str ∧ ds = is.map D.str
  | [], vs, is, h, e => by rw [strsD] at e; cases e; exact ⟨h.nil_inv, rfl⟩
  | d :: ds, vs, is, h, e => by
    obtain ⟨v, r, rfl, h1, h2⟩ := h.cons_inv
    cases d with
    | str i =>
      rw [strsD] at e
      split at e
      · rename_i js q
        cases e
        obtain ⟨e1, e2⟩ := strsD_is h2 q
        simp only [Is] at h1
        exact ⟨by rw [h1, e1]; rfl, by rw [e2]; rfl⟩
      · cases e
    | _ => cases e
def gJoin (a : Str) (xs : List D) : Option D := match strsD xs with
  | some ys => if (ys.map (·.length)).sum + ys.length * a.length ≤ smallL then some (.str (Txt.join a ys)) else none
  | none => none
def dJoin (fo fe : DP) : DP := fun env => match fo env with
  | some (.str a) => match fe env with
    | some (.lst xs) => gJoin a xs
    | some (.tup xs) => gJoin a xs
    | _ => none
  | _ => none
theorem gJoin_some {a : Str} {xs : List D} {d : D} (h : gJoin a xs = some d) : ∃ ys, strsD xs = some ys ∧ (ys.map (·.length)).sum + ys.length * a.length ≤ smallL ∧ d = .str (Txt.join a ys) := by
  unfold gJoin at h
  split at h
  · rename_i ys q
    split at h
    · rename_i hc
      cases h
      exact ⟨ys, q, hc, rfl⟩
    · cases h
  · cases h
theorem r_join (ho : PE X o (tD (tbX X cls) B fo)) (ha : PE X e (tP (tbX X cls) B f)) (hs : starEach [e] X.env = [(false, eval e X.env)] := by rfl) (hbase : attributeBase o "join" X.env (eval o X.env) = eval o X.env := by rfl) (hline : (apos.endLine == pos.line) = true := by rfl) :
    PE X (.Call (.Attribute o "join" apos) [e] [] pos) (tD (tbX X cls) B (dJoin fo f)) := weakE (pe_join ho ha hs hbase hline) fun σ H Q ⟨F, env, d, r, e, k⟩ => by
  unfold dJoin at e
  split at e
  · rename_i a q
    refine ⟨F, env, _, r, q, fun F1 H1 v g1 iv => ?_⟩
    simp only [Is] at iv
    subst iv
    refine ⟨⟨a, rfl⟩, ?_⟩
    have big : ∀ {n : Nat}, n ≤ smallL → n ≤ 16777216 := fun h => Nat.le_trans h (by decide)
    split at e
    · rename_i xs q2
      obtain ⟨ys, h1, h2, rfl⟩ := gJoin_some e
      refine ⟨F1, env, _, r.grow g1, q2, fun F2 H2 w g2 pk => ?_⟩
      obtain ⟨ad, vs, rfl, h3, h4⟩ := own_lst g2.fh pk
      obtain ⟨e1, _⟩ := strsD_is h4 h1
      subst e1
      exact ⟨a, ad, ys, rfl, rfl, .inl h3, big h2, k F2 H2 _ (g1.trans g2) (by simp only [Is])⟩
    · rename_i xs q2
      obtain ⟨ys, h1, h2, rfl⟩ := gJoin_some e
      refine ⟨F1, env, _, r.grow g1, q2, fun F2 H2 w g2 pk => ?_⟩
      have pk := pk_is pk fun _ _ z => z
      simp only [Is] at pk
      obtain ⟨ad, vs, rfl, h3, h4⟩ := pk
      obtain ⟨e1, _⟩ := strsD_is h4 h1
      subst e1
      exact ⟨a, ad, ys, rfl, rfl, .inr (sqT_mono g2.fh h3), big h2, k F2 H2 _ (g1.trans g2) (by simp only [Is])⟩
    · cases e
  · cases e

/-! ### min(l, default = d), max(l, default = d) of texts, of ints -/
def gMinT (mx : Bool) (xs : List D) (d : D) : Option D := match xs with
  | [] => some d
  | x :: r => match strsD (x :: r) with
    | some (s :: ss) => some (.str (if mx then PySem.W.maxOf s ss else PySem.W.minOf s ss))
    | _ => match intsD (x :: r) with
      | some (s :: ss) => some (.int (if mx then PySem.W.maxOf s ss else PySem.W.minOf s ss))
      | _ => none
def dMinT (mx : Bool) (f fd : DP) : DP := fun env => match f env with
  | some (.lst xs) => match fd env with
    | some d => gMinT mx xs d
    | none => none
  | _ => none
theorem hold_strs {h : Heap} : ∀ {us : List Value} {ys : List Str}, Vals (ys.map V.str) us → PySem.W.HoldAll h us ys
  | [], [], _ => ⟨_, .nil⟩
  | u :: us, y :: ys, .cons r t => by
    obtain ⟨tk, rfl⟩ := r
    obtain ⟨as, ra⟩ := hold_strs (h := h) t
    exact ⟨_, .cons (.str y tk) ra⟩
theorem hold_ints {h : Heap} : ∀ {us : List Value} {ys : List Int}, Vals (ys.map V.int) us → PySem.W.HoldAll h us ys
  | [], [], _ => ⟨_, .nil⟩
  | u :: us, y :: ys, .cons r t => by
    obtain ⟨tk, rfl⟩ := r
    obtain ⟨as, ra⟩ := hold_ints (h := h) t
    exact ⟨_, .cons (.int y tk) ra⟩
theorem reads_str {h : Heap} {v : Value} {x : Str} (r : PySem.W.Holds h v x) : L2.RelV (.str x) v := by
  obtain ⟨as, r⟩ := r
  cases r
  exact ⟨_, rfl⟩
theorem reads_int {h : Heap} {v : Value} {x : Int} (r : PySem.W.Holds h v x) : L2.RelV (.int x) v := by
  obtain ⟨as, r⟩ := r
  cases r
  exact ⟨_, rfl⟩

def rMinT (K : PySem.W.Frag) (mx : Bool) : List V → List V → Hp → VK → Prop := fun xs zs H Q => ∃ a vs z, xs = [.ref a] ∧ zs = [z] ∧ SqL K H a vs ∧
  ((∃ ss : List Str, vs = ss.map V.str ∧ (ss = [] → Q z H) ∧ ∀ s r, ss = s :: r → Q (.str (if mx then PySem.W.maxOf s r else PySem.W.minOf s r)) H) ∨
   ∃ ss : List Int, vs = ss.map V.int ∧ (ss = [] → Q z H) ∧ ∀ s r, ss = s :: r → Q (.int (if mx then PySem.W.maxOf s r else PySem.W.minOf s r)) H)
theorem call_minT (calm : X.calm = true) (hu : X.A.units + 64 < cLine) : CallRK X (.builtin "min") ["default"] (rMinT X.K false) := by
  intro pins s σ H xs zs us ws Q I r1 r2 h
  obtain ⟨a, vs, z, rfl, rfl, hl, h⟩ := h
  obtain ⟨u, rfl, ru⟩ := vals1 r1
  obtain ⟨w, rfl, rw'⟩ := vals1 r2
  obtain rfl : u = Value.ref a := ru
  obtain ⟨its, rv, pl, _⟩ := I.list hl
  rcases h with ⟨ss, rfl, q0, q1⟩ | ⟨ss, rfl, q0, q1⟩
  · refine PySem.W.min_list_datum_default (α := Str) (xs := ss) (I.ok.hd calm) pl.isList (hold_strs (by simpa using rv)) (show X.A.units + 1 + 0 < cLine by omega) (fun e h' tk k => ⟨z, H, I.kept k, rw', q0 e⟩) fun y ys i v h' tk e _ hh k => ⟨_, H, I.kept k, reads_str hh, q1 y ys e⟩
  · refine PySem.W.min_list_datum_default (α := Int) (xs := ss) (I.ok.hd calm) pl.isList (hold_ints (by simpa using rv)) (show X.A.units + 1 + 0 < cLine by omega) (fun e h' tk k => ⟨z, H, I.kept k, rw', q0 e⟩) fun y ys i v h' tk e _ hh k => ⟨_, H, I.kept k, reads_int hh, q1 y ys e⟩
theorem call_maxT (calm : X.calm = true) (hu : X.A.units + 64 < cLine) : CallRK X (.builtin "max") ["default"] (rMinT X.K true) := by
  intro pins s σ H xs zs us ws Q I r1 r2 h
  obtain ⟨a, vs, z, rfl, rfl, hl, h⟩ := h
  obtain ⟨u, rfl, ru⟩ := vals1 r1
  obtain ⟨w, rfl, rw'⟩ := vals1 r2
  obtain rfl : u = Value.ref a := ru
  obtain ⟨its, rv, pl, _⟩ := I.list hl
  rcases h with ⟨ss, rfl, q0, q1⟩ | ⟨ss, rfl, q0, q1⟩
  · refine PySem.W.max_list_datum_default (α := Str) (xs := ss) (I.ok.hd calm) pl.isList (hold_strs (by simpa using rv)) (show X.A.units + 1 + 0 < cLine by omega) (fun e h' tk k => ⟨z, H, I.kept k, rw', q0 e⟩) fun y ys i v h' tk e _ hh k => ⟨_, H, I.kept k, reads_str hh, q1 y ys e⟩
  · refine PySem.W.max_list_datum_default (α := Int) (xs := ss) (I.ok.hd calm) pl.isList (hold_ints (by simpa using rv)) (show X.A.units + 1 + 0 < cLine by omega) (fun e h' tk k => ⟨z, H, I.kept k, rw', q0 e⟩) fun y ys i v h' tk e _ hh k => ⟨_, H, I.kept k, reads_int hh, q1 y ys e⟩
theorem tMinT_of {mx : Bool} {fd : DP} {σ : L2.St} {H : Hp} {Q : VK} (h : tD (tbX X cls) B (dMinT mx f fd) σ H Q) : tCKw (rMinT X.K mx) (tCons (tP (tbX X cls) B f) tNil) (tCons (tD (tbX X cls) B fd) tNil) σ H Q := by
  obtain ⟨F, env, d, r, e, k⟩ := h
  unfold dMinT at e
  split at e
  · rename_i xs q
    split at e
    · rename_i dz q2
      refine ⟨F, env, _, r, q, fun F1 H1 v g1 pk => ⟨F1, env, _, r.grow g1, q2, fun F2 H2 w g2 iw => ?_⟩⟩
      have g12 := g1.trans g2
      obtain ⟨a, vs, rfl, h1, h2⟩ := own_lst g2.fh (pk.grow g2)
      refine ⟨a, vs, w, rfl, rfl, h1, ?_⟩
      unfold gMinT at e
      split at e
      · cases e
        rw [h2.nil_inv]
        exact .inl ⟨[], rfl, fun _ => k F2 H2 w g12 iw, fun s r e => by cases e⟩
      · split at e
        · rename_i s ss q3
          cases e
          obtain ⟨e1, _⟩ := strsD_is h2 q3
          refine .inl ⟨_, e1, (fun z => by cases z), fun s' r' e' => ?_⟩
          cases e'
          exact k F2 H2 _ g12 (by simp only [Is])
        · split at e
          · rename_i s ss q3
            cases e
            obtain ⟨e1, _⟩ := intsD_is h2 q3
            refine .inr ⟨_, e1, (fun z => by cases z), fun s' r' e' => ?_⟩
            cases e'
            exact k F2 H2 _ g12 (by simp only [Is])
          · cases e
    · cases e
  · cases e
variable {fd : DP} {kv : Expr} {kpos : Pos}
theorem r_minT (calm : X.calm = true) (hu : X.A.units + 64 < cLine) (hg : Gl X "min") (hm : X.mg "min" = none) (ha : PE X e (tP (tbX X cls) B f)) (hk : PE X kv (tD (tbX X cls) B fd)) (he : starEach [e] X.env = [(false, eval e X.env)] := by rfl)
    (he' : backTo pos (starEach [e] X.env) = (false, eval e X.env) :: backTo pos (starEach [] X.env) := by rfl) (hpl : (backTo pos (starEach [e] X.env)).any (·.1) = false := by rfl)
    (hall : (backToKw pos (keywordEach [⟨some "default", kv, kpos⟩] X.env)).all (·.1.isSome) = true := by rfl) (hnone : (backToKw pos (keywordEach [⟨some "default", kv, kpos⟩] X.env)).any (·.1.isNone) = false := by rfl) (hks : (backToKw pos (keywordEach [⟨some "default", kv, kpos⟩] X.env)).filterMap (·.1) = [("default" : Str)] := by rfl) :
    PE X (.Call (.Name "min" p) [e] [⟨some "default", kv, kpos⟩] pos) (tD (tbX X cls) B (dMinT false f fd)) := weakE (pe_callBK (call_minT calm hu) hg hm (by rfl) (pa_cons ha pa_nil he) (pk_cons hk pk_nil) (by decide) (by decide) he' hpl hall hnone hks) fun _ _ _ h => tMinT_of h
theorem r_maxT (calm : X.calm = true) (hu : X.A.units + 64 < cLine) (hg : Gl X "max") (hm : X.mg "max" = none) (ha : PE X e (tP (tbX X cls) B f)) (hk : PE X kv (tD (tbX X cls) B fd)) (he : starEach [e] X.env = [(false, eval e X.env)] := by rfl)
    (he' : backTo pos (starEach [e] X.env) = (false, eval e X.env) :: backTo pos (starEach [] X.env) := by rfl) (hpl : (backTo pos (starEach [e] X.env)).any (·.1) = false := by rfl)
    (hall : (backToKw pos (keywordEach [⟨some "default", kv, kpos⟩] X.env)).all (·.1.isSome) = true := by rfl) (hnone : (backToKw pos (keywordEach [⟨some "default", kv, kpos⟩] X.env)).any (·.1.isNone) = false := by rfl) (hks : (backToKw pos (keywordEach [⟨some "default", kv, kpos⟩] X.env)).filterMap (·.1) = [("default" : Str)] := by rfl) :
    PE X (.Call (.Name "max" p) [e] [⟨some "default", kv, kpos⟩] pos) (tD (tbX X cls) B (dMinT true f fd)) := weakE (pe_callBK (call_maxT calm hu) hg hm (by rfl) (pa_cons ha pa_nil he) (pk_cons hk pk_nil) (by decide) (by decide) he' hpl hall hnone hks) fun _ _ _ h => tMinT_of h

/-! ### xs.append(e), xs an own list in the slot i -/
def dApp (i : Nat) (f : DP) : DS := fun env => match env[i]? with
  | some (some (.lst xs, o)) => if o = .fz then none else if xs.length < smallL then (f env).map fun d => .nx (env.set i (some (.lst (xs ++ [d]), o))) else none
  | _ => none
theorem mtr_append : MtR X "list.append" rAppend := mt_append
theorem r_app {y : Str} {py : Pos} (ho : PE X (.Name y py) (tVar i)) (ha : PE X e (tD (tbX X cls) B f)) (hsw : swapsWith (.Call (.Attribute (.Name y py) "append" apos) [e] [] cpos) none pos.line X.env = pure false := by rfl)
    (hbase : attributeBase (.Name y py) "append" X.env (eval (.Name y py) X.env) = eval (.Name y py) X.env := by rfl)
    (hfew : ((backTo cpos (starEach [e] X.env)).all (fun x => !x.1) && (backToKw cpos (keywordEach [] X.env)).all (fun x => x.1.isSome) && decide (([e] : List Expr).length + ([] : List Keyword).length + (if ([] : List Keyword).isEmpty then 0 else 1) < 30)) = true := by rfl)
    (hline : (apos.endLine == cpos.line) = true := by rfl) (hs : starEach [e] X.env = [(false, eval e X.env)] := by rfl) (hplain : (backTo cpos (starEach [] X.env)).any (·.1) = false := by rfl) :
    PS X (.Expr (.Call (.Attribute (.Name y py) "append" apos) [e] [] cpos) pos) (tS (tbX X cls) B W (dApp i f)) := weakS (ps_expr (pe_bm PySem.F.plainAttrs_list PySem.F.slot_list_append PySem.F.type_list_append mtr_append ho (pa_cons ha pa_nil hs) hbase hfew hline hs hplain) hsw) fun D σ H ⟨F, env, u, r, e, k⟩ => by
  unfold dApp at e
  split at e
  · rename_i xs fl q
    split at e
    · cases e
    · rename_i hfl
      split at e
      · rename_i hl
        obtain ⟨d, e1, rfl⟩ := Option.map_eq_some_iff.mp e
        obtain ⟨v, h1, _, h3, _⟩ := r.sl i _ _ q
        obtain ⟨a0, vs0, ev, hf0, hh0, _⟩ := (h3 hfl).1
        subst ev
        refine ⟨_, h1, .inl ⟨rfl, vs0, SqL.of hh0⟩, F, env, d, r, e1, fun F' H' w g iw => ?_⟩
        obtain ⟨v', h1', _, h3', _⟩ := (r.grow g).sl i _ _ q
        rw [h1] at h1'
        cases h1'
        obtain ⟨a, vs, ev, hf, hh, hi⟩ := (h3' hfl).1
        cases ev
        refine ⟨a0, vs, w, rfl, rfl, hh, small_lt (by rw [hi.length]; exact hl), ?_⟩
        exact k F' σ _ g.ff ((r.grow g).change hfl q h1 ⟨a0, _, rfl, hf, upd_same, hi.snoc iw⟩)
      · cases e
  · cases e
end
end Pd

/-! Pd: tuple(d), d a dict. -/
namespace Pd
open PySem PySem.Spec PyProof.Rows L2

section
variable {prog : Program} {w : World} {A : Around} {E : Value → Shared → Prop} {s : Shared} {r : Addr} {G : List Value → Prop}
theorem code_tupleD {Q1 : Value → Shared → Prop} (hT : s.TypeIs (.ref r) "dict") (hG : Gathers prog w A.in1 s (.ref r) G) (hz : ∀ acc, G acc → acc.length ≤ sizeLine)
    (h : ∀ (h' : Heap) (tk : Nat) (acc : List Value), (∀ b o, s.heap.get? b = some o → h'.get? b = some o) → G acc → Q1 (.ref h'.objs.size) { s with heap := h'.push { cls := .type "tuple", data := .seq acc.toArray }, toks := tk }) :
    codeAny (model prog w) A (.call (.builtin "tuple.__new__") ⟨[.type "tuple", .ref r], []⟩) (wants Q1 E) s := by
  refine codeAny_of_tree ?_
  show wpAny _ A.in1 (do checkBuiltinCall "tuple.__new__" ⟨[.type "tuple", .ref r], []⟩; again (.builtin "tuple.__new__" ⟨[.type "tuple", .ref r], []⟩)) _ _ s
  refine wpAny_bind (wpAny_of_eq (F.newCall_tuple_1 _) (wpAny_pure ⟨plainId_quiet F.plain_tuple_new _, codeAny_builtin F.entry_tuple_new ?_⟩))
  rw [Around.under_plainId F.plain_tuple_new _]
  have s1 := sub_tuple_self
  have s2 := init_tuple_lookup
  have s3 := madeHere_tuple
  have hc : ∀ {E' : Value → Shared → Prop} {Q : List Value → Shared → Prop}, (∀ h' tk acc, (∀ b o, s.heap.get? b = some o → h'.get? b = some o) → G acc → Q acc { s with heap := h', toks := tk }) → wpAny (model prog w) A.in1 (collect (.ref r)) Q E' s := fun q => hG _ _ q
  clear hG
  wp_walk using wpAny_typeOf hT, hc
  intro h' tk acc k ga
  show wpAny _ _ (Builtin.Tuple.tupleExact acc.toArray >>= fun v => ret v) _ _ _
  unfold Builtin.Tuple.tupleExact
  refine wpAny_bind (wpAny_newObj_type ?_ (by show acc.toArray.size ≤ sizeLine; rw [List.size_toArray]; exact hz acc ga))
  exact wpAny_pure (h h' tk acc k ga)
theorem call_tupleD {Q : Value → Shared → Prop} (hT : s.TypeIs (.ref r) "dict") (hG : Gathers prog w A.in1.in1 s (.ref r) G) (hz : ∀ acc, G acc → acc.length ≤ sizeLine)
    (h : ∀ (h' : Heap) (tk : Nat) (acc : List Value), (∀ b o, s.heap.get? b = some o → h'.get? b = some o) → G acc → Q (.ref h'.objs.size) { s with heap := h'.push { cls := .type "tuple", data := .seq acc.toArray }, toks := tk }) :
    wpAny (model prog w) A (call (.type "tuple") [.ref r]) Q E s := by
  refine callType_codes (Q₁ := fun obj s1 => s1.TypeIs obj "tuple" ∧ Q obj s1) F.called_tuple (F.typeCall_tuple_1 _) F.entry_object_init
    (code_tupleD (A := A.in1) hT hG hz fun h' tk acc k ga => ⟨⟨_, Heap.get?_push_size _ rfl, rfl⟩, h h' tk acc k ga⟩) fun obj s1 h1 => ?_
  exact ⟨h1.1, F.args_object_init_2 obj _, object_init_meets F.called_tuple.init.lookup F.called_tuple.made (by decide) prog w A.in1 _ s1 ⟨h1.1, rfl, h1.2⟩⟩
end
section
variable {X : Cx} {cls : Nat → Addr} {B : Base} {e : Expr} {pos p : Pos} {f : DP}
def gTupleD : D → Option D
  | .dic ks _ => if ks.length ≤ smallL then some (.tup ks) else none
  | _ => none
def rTupleD (T : Tb) : List V → Hp → VK → Prop := fun xs H Q => ∃ F v ks ds, xs = [v] ∧ Same F H ∧ Pk T F H v (.dic ks ds) ∧ ks.length ≤ smallL ∧ ∀ p ws, H p = none → IsL T F ws ks → Q (.ref p) (upd H p (.tup ws))
theorem call_tupD (calm : X.calm = true) : CallR X (.type "tuple") (rTupleD (tbX X cls)) := by
  intro pins s σ H xs us Q I r h
  obtain ⟨F, v, ks, ds, rfl, sm, pk, hl, q⟩ := h
  obtain ⟨u, rfl, rv⟩ := vals1 r
  obtain ⟨G, hG, gG⟩ := gath (A := X.A.in1.in1) I sm rv pk (dx := .dic ks ds) rfl hl (I.ok.hd calm)
  obtain ⟨a, es, rfl, ha, _⟩ := pk_dic sm pk
  obtain rfl : u = Value.ref a := rv
  refine call_tupleD (nd_type I ha).1 hG (fun acc ga => ?_) fun h' tk acc k ga => ?_
  · obtain ⟨ws, r2, i2⟩ := gG acc ga
    rw [← r2.length, i2.length]
    exact small_line hl
  · obtain ⟨ws, r2, i2⟩ := gG acc ga
    have I1 : Inv X pins σ H { s with heap := h', toks := tk } := I.kept k
    refine ⟨.ref h'.objs.size, upd H h'.objs.size (.tup ws), ?_, rfl, q _ ws (I1.hok.fresh (Nat.le_refl _)) i2⟩
    exact I1.laid (t' := tk) (fun b o z => Heap.get?_push_of_some _ z) (Nat.le_refl _) ⟨by rw [i2.length]; exact small_line hl, acc, r2, IsTup.new _ _⟩
theorem r_tupleD (calm : X.calm = true) (hg : Gl X "tuple") (hm : X.mg "tuple" = none) (ha : PE X e (tP (tbX X cls) B f)) (he : starEach [e] X.env = [(false, eval e X.env)] := by rfl) (hpl : (backTo pos (starEach [] X.env)).any (·.1) = false := by rfl) :
    PE X (.Call (.Name "tuple" p) [e] [] pos) (tD (tbX X cls) B (dMap gTupleD f)) := r_ty1 (call_tupD (cls := cls) calm) (fun F H v dx d Q s pk e k => by
      unfold gTupleD at e
      split at e
      · rename_i ks ds
        split at e
        · rename_i hl
          cases e
          refine ⟨F, v, ks, ds, rfl, s, pk, hl, fun p ws hp iw => ?_⟩
          have g := Grow.new (o := HO.tup ws) s hp
          refine k _ _ _ g ?_
          simp only [Is]
          exact ⟨p, ws, rfl, SqT.of upd_same, iw.mono g.ff⟩
        · cases e
      · cases e) hg hm (by rfl) ha (by decide) (by decide) he hpl
end
end Pd

/-! Pd: set(text), sorted(set(text)). -/
namespace Pd
open PySem PySem.Spec PyProof.Rows L2 PySem.Froz

def txt (e : Int × Value) : Str := match e.2 with
  | .str k _ => k
  | _ => Str.empty
/-- the payload of a set of texts: its members l, in some order -/
structure TS (P : Program) (w : World) (D : SD) (l : List Str) : Prop where
  ok : TxOk P w D l
  tx : ∀ e ∈ D.1.toList, ∃ k u, e.2 = .str k u
  pm : (D.1.toList.map txt).Perm l
  rs : L2.Ris D.2.2.place.toList
  ld : w.params.followText "set-order" = true ∨ D.2.2.led = true
section
variable {P : Program} {w : World} {A : Around} {E : Value → Shared → Prop} {s : Shared} {D : SD} {l : List Str} {k : Str} {u : Tok}
theorem ts_lay {es es1 : Array (Int × Value)} {ep ep1 : Nat} {t t1 : SetTable} (p : List.Perm es1.toList es.toList) (h : ∀ e ∈ es.toList, ∃ k u, e.2 = Value.str k u) (q : (es.toList.map txt).Perm l) : (∀ e ∈ es1.toList, ∃ k u, e.2 = Value.str k u) ∧ (es1.toList.map txt).Perm l :=
  ⟨fun e he => h e (p.mem_iff.mp he), (p.map txt).trans q⟩
theorem ts_add (h : TS P w D l) : TS P w (addTx (hashStr w k) (.str k u) D) (k :: l) := by
  have ok := add_ok u h.ok (k := k)
  obtain ⟨es, ep, t⟩ := D
  have hp := layNew_perm t es (hashStr w k) (.str k u)
  have hr := L2.layNew_ris t es (hashStr w k) (.str k u) h.rs
  have hl := L2.layNew_led t es (hashStr w k) (.str k u)
  unfold addTx at ok ⊢
  dsimp only at ok ⊢
  generalize layNew t es (hashStr w k) (.str k u) = Z at hp hr hl ok ⊢
  obtain ⟨es1, t1, wd, gv⟩ := Z
  dsimp only at hp hr hl ok ⊢
  rw [Array.toList_push] at hp
  have pc : es1.toList.Perm ((hashStr w k, Value.str k u) :: es.toList) := hp.trans (List.perm_append_singleton _ _)
  have tx1 : ∀ e ∈ es1.toList, ∃ k u, e.2 = Value.str k u := by
    intro e he
    rcases List.mem_cons.mp (pc.mem_iff.mp he) with z | z
    · exact ⟨k, u, by rw [z]⟩
    · exact h.tx e z
  have pm1 : (es1.toList.map txt).Perm (k :: l) := (pc.map txt).trans (List.Perm.cons k h.pm)
  have led1 : w.params.followText "set-order" = true ∨ t1.led = true := h.ld.imp id fun z => by rw [hl]; exact z
  generalize e2 : (if t1.plain = true then { t1 with plain := false } else t1) = t2 at ok ⊢
  have r2 : L2.Ris t2.place.toList := by rw [← e2]; split <;> exact hr
  have led2 : w.params.followText "set-order" = true ∨ t2.led = true := by rw [← e2]; split <;> exact led1
  unfold tailTx at ok ⊢
  by_cases c : (!wd && t2.tooFull) = true
  · rw [if_pos c] at ok ⊢
    have rp := relayAll_perm t2 es1 (SetTable.grown es1.size)
    obtain ⟨a1, a2⟩ := ts_lay (ep := 0) (ep1 := 0) (t := t2) (t1 := t2) rp tx1 pm1
    exact ⟨ok, a1, a2, L2.relayAll_ris t2 es1 _, led2.imp id fun z => by show (relayAll t2 es1 _).2.1.led = true; rw [L2.relayAll_led]; exact z⟩
  · rw [if_neg c] at ok ⊢
    exact ⟨ok, tx1, pm1, r2, led2⟩
/-- a text that is there already -/
theorem add_same {a : Addr} {T : String} {Q : Bool → Shared → Prop} (ho : s.heap.get? a = some (sObj T D)) (F : TxOk P w D l) (hk : k ∈ l) (hb : l.length < scanBound) (h : Q false s) : wpAny (model P w) A (setAddHashed a (.str k u) (hashStr w k)) Q E s := by
  obtain ⟨es, ep, t⟩ := D
  have hd : (sObj T (es, ep, t)).data = .set es ep t := rfl
  have hf : t.fits es.size = true := F.fit
  have hel : ElemsOf (strKind P w) es.toList := F.el
  have hsz : es.size = l.length := F.sz
  have hb0 : es.size < scanBound := by omega
  have hkey : (strKind P w).is k (.str k u) = true := is_str k u
  unfold setAddHashed setAddHashedIn
  refine wpAny_holding (wpAny_bind (wpAny_setState_of ho hd hf ?_))
  dsimp only
  rw [byScan_of rfl hb0 hel]
  simp only [↓reduceIte]
  unfold setAddByScan
  refine wpAny_bind ?_
  refine wpAny_bind (wpAny_rule ?_)
  refine wpAny_bind (wpAny_setScan_of (knd := strKind P w) (k := k) hkey ho hd hf hel ?_)
  cases hr : List.findIdx? (fun e => (strKind P w).is k e.2) es.toList with
  | some j =>
    dsimp only
    exact wpAny_pure (wpAny_pure h)
  | none =>
    obtain ⟨e, he, z⟩ := (F.mem k).mp hk
    have := List.findIdx?_eq_none_iff.mp hr e he
    rw [z] at this
    cases this
/-- the set at a -/
def TR (P : Program) (w : World) (h : Heap) (a : Addr) (l : List Str) : Prop := ∃ D, h.get? a = some (sObj "set" D) ∧ TS P w D l
def addS (l : List Str) (k : Str) : List Str := if k ∈ l then l else k :: l
theorem addS_len (l : List Str) (k : Str) : (addS l k).length ≤ l.length + 1 := by
  unfold addS
  split
  · omega
  · simp
theorem tr_add {a : Addr} {Q : Bool → Shared → Prop} (R : TR P w s.heap a l) (hb : l.length + 1 < scanBound) (h : ∀ b h', Heap.SameBut a s.heap h' → TR P w h' a (addS l k) → Q b { s with heap := h' }) : wpAny (model P w) A (setAddHashed a (.str k u) (hashStr w k)) Q E s := by
  obtain ⟨D, ho, ts⟩ := R
  by_cases hk : k ∈ l
  · refine add_same ho ts.ok hk (by omega) (h false s.heap (Heap.SameBut.refl a s.heap) ?_)
    unfold addS
    rw [if_pos hk]
    exact ⟨D, ho, ts⟩
  · refine add_x ho ts.ok hk hb (h true _ (Heap.SameBut.update s.heap a _) ?_)
    unfold addS
    rw [if_neg hk]
    exact ⟨_, get_upd _ ho rfl, ts_add ts⟩
theorem tr_new {h : Heap} {a : Addr} (ho : h.get? a = some { cls := .type "set", dict := none, data := .set #[] 0 (.fresh 0 0 (!w.params.followText "set-order")) }) : TR P w h a [] := by
  refine ⟨(#[], 0, .fresh 0 0 (!w.params.followText "set-order")), ho, TxOk.nil (by rfl), (fun e he => by simp at he), List.Perm.refl _, List.Pairwise.nil, ?_⟩
  show _ ∨ (!w.params.followText "set-order") = true
  cases w.params.followText "set-order"
  · exact .inr rfl
  · exact .inl rfl
/-- the members behind the first i signs -/
def upTo (x : Str) (i : Nat) : List Str := (x.cps.toList.take i).foldl (fun l c => addS l (sing c)) []
theorem upTo_len (x : Str) : ∀ i : Nat, (upTo x i).length ≤ i := by
  intro i
  unfold upTo
  have z : ∀ (cs : List Nat) (l : List Str), (cs.foldl (fun l c => addS l (sing c)) l).length ≤ l.length + cs.length := by
    intro cs
    induction cs with
    | nil => intro l; simp
    | cons c cs ih =>
      intro l
      have h1 := ih (addS l (sing c))
      have h2 := addS_len l (sing c)
      rw [List.foldl_cons, List.length_cons]
      omega
  have h1 := z (x.cps.toList.take i) []
  rw [List.length_take] at h1
  simp only [List.length_nil] at h1
  omega
theorem upTo_next {x : Str} {i c : Nat} (h : x.cps[i]? = some c) : upTo x (i + 1) = addS (upTo x i) (sing c) := by
  unfold upTo
  rw [List.take_add_one, show x.cps.toList[i]? = some c by rw [Array.getElem?_toList]; exact h, Option.toList_some, List.foldl_append]
  rfl
theorem addS_ge (l : List Str) (k : Str) : l.length ≤ (addS l k).length := by
  unfold addS
  split
  · omega
  · simp
theorem upTo_mono (x : Str) {i j : Nat} (h : i ≤ j) : (upTo x i).length ≤ (upTo x j).length := by
  have z : ∀ (cs : List Nat) (l : List Str), l.length ≤ (cs.foldl (fun l c => addS l (sing c)) l).length := by
    intro cs
    induction cs with
    | nil => intro l; simp
    | cons c cs ih =>
      intro l
      have h1 := ih (addS l (sing c))
      have h2 := addS_ge l (sing c)
      rw [List.foldl_cons]
      omega
  unfold upTo
  have e : x.cps.toList.take j = x.cps.toList.take i ++ (x.cps.toList.take j).drop i := by
    have := List.take_append_drop i (x.cps.toList.take j)
    rw [List.take_take, Nat.min_eq_left h] at this
    exact this.symm
  rw [e, List.foldl_append]
  exact z _ _
/-- set.update over the signs of a text -/
theorem update_txt {I S : Addr} {fp wr : List Addr} {G : Array GenState → Array GenState → Prop} {x : Str} {St : Nat → Shared → Prop} {R : Result → Shared → Prop} (W : WalksS P w A.in1 I fp wr G x.cps.size (SignAt x) St) (hSf : S ∉ fp) (hfew : (upTo x x.cps.size).length + 1 < scanBound) :
    ∀ (k i : Nat) (s : Shared), x.cps.size - i = k → i ≤ x.cps.size → St i s → TR P w s.heap S (upTo x i) → (∀ s', Moved (S :: wr) G s s' → TR P w s'.heap S (upTo x x.cps.size) → R (.ok (.ret .none)) s') →
      codeAny (model P w) A (.builtin "set.update.loop" ⟨[.ref S, .ref I], []⟩) R s := by
  have out : S ∉ wr := fun z => hSf (W.sub _ z)
  have wider : ∀ b ∈ wr, b ∈ S :: wr := fun b z => List.mem_cons_of_mem _ z
  intro k
  induction k with
  | zero =>
    intro i s hk hi hst hS hR
    obtain rfl : i = x.cps.size := by omega
    refine codeAny_builtin PyProof.Rows.F.entry_set_update_loop ?_
    rw [Around.under_plainId PyProof.Rows.F.plain_set_update_loop _]
    show wpAny _ A.in1 (pyNext (.ref I) >>= _) _ _ s
    refine wpAny_bind (W.done s _ _ hst fun s' hm => ?_)
    show wpAny _ A.in1 (ret Value.none) _ _ s'
    obtain ⟨D, ho, ts⟩ := hS
    exact wpAny_pure (hR s' (hm.mono wider) ⟨D, hm.heap S _ out ho, ts⟩)
  | succ k ih =>
    intro i s hk hi hst hS hR
    have hlt : i < x.cps.size := by omega
    refine codeAny_builtin PyProof.Rows.F.entry_set_update_loop ?_
    rw [Around.under_plainId PyProof.Rows.F.plain_set_update_loop _]
    show wpAny _ A.in1 (pyNext (.ref I) >>= _) _ _ s
    refine wpAny_bind (W.item i s _ _ hlt hst fun v s' hP hst' hm => ?_)
    obtain ⟨c, tk, hc, rfl⟩ := hP
    obtain ⟨D, ho, ts⟩ := hS
    have hS' : TR P w s'.heap S (upTo x i) := ⟨D, hm.heap S _ out ho, ts⟩
    show wpAny _ A.in1 (holding [Value.str (sing c) tk] (setAdd S (.str (sing c) tk)) >>= _) _ _ s'
    refine wpAny_bind (wpAny_holding ?_)
    unfold setAdd
    refine wpAny_holding ?_
    refine wpAny_bind ((strKind P w).pyHash (k := sing c) (is_str _ _) ?_)
    refine tr_add (s := { s' with toks := s'.toks + 1 }) hS' (by have := upTo_mono x (i := i) (j := x.cps.size) (by omega); omega) fun b h' sb hS2 => ?_
    rw [← upTo_next hc] at hS2
    refine wpAny_pure ⟨plainId_quiet PyProof.Rows.F.plain_set_update_loop _, ih (i + 1) _ (by omega) hlt (W.frame _ s' _ _ hst' (Nat.le_succ _) fun b hb o e => ?_) hS2 fun s'' hm2 hS3 => ?_⟩
    · rw [sb.2 b (fun z : b = S => hSf (by rw [← z]; exact hb))]; exact e
    · refine hR s'' (Moved.trans W.gtrans ((hm.mono wider).then_heap (Nat.le_succ _) fun b o hb e => ?_) hm2) hS3
      rw [sb.2 b (fun z : b = S => hb (by rw [z]; exact List.mem_cons_self))]; exact e
end
end Pd

/-! Pd: sorted(set(text)). -/
namespace Pd
open PySem PySem.Spec PyProof.Rows L2 PySem.Froz

section
variable {P : Program} {w : World} {A : Around} {E : Value → Shared → Prop} {s : Shared}
set_option maxHeartbeats 3200000 in
/-- set(text) -/
theorem call_set_txt {x : Str} {u : Tok} {Q : Value → Shared → Prop} (hh : A.handled = none) (hfew : (upTo x x.cps.size).length + 1 < scanBound)
    (h : ∀ (h' : Heap) (tk : Nat), TR P w h' s.heap.objs.size (upTo x x.cps.size) → (∀ b o, s.heap.get? b = some o → h'.get? b = some o) → Q (.ref s.heap.objs.size) { s with heap := h', toks := tk }) :
    wpAny (model P w) A (call (.type "set") [.str x u]) Q E s := by
  obtain ⟨c, tl, hmro⟩ := F.called_set.mro
  have c1 := F.called_set.made
  have c2 := F.called_set.sub
  refine wpAny_call (codeAny_of_tree ?_)
  show wpAny _ _ (callAny (.type "set") _) _ _ _
  refine wpAny_pure ⟨Code.quiet_builtin _ (by decide +kernel), codeAny_builtin F.entry_type_call ?_⟩
  rw [Around.under_plain (weight_type_call_type "set" [.str x u] []) rfl]
  have c3 := F.called_set.notType
  have c4 := F.called_set.canCreate
  have c5 := F.typeCall_set_1 (.str x u)
  repeat (any_goals (first | assumption | wp_step))

  generalize hob : ({ cls := .type "set", dict := none, data := .set #[] 0 (.fresh 0 0 (!w.params.followText "set-order")) } : Obj) = ob
  refine codeAny_mono (code_set_led1 (.str x u) (E := E) (Q₁ := fun obj s1 => obj = .ref s.heap.objs.size ∧ s1 = { s with heap := s.heap.push ob }) ⟨rfl, by rw [← hob]⟩) fun r s1 hr => ?_
  match r, hr with
  | .error e, hr => exact hr
  | .ok .next, hr => exact hr.elim
  | .ok .brk, hr => exact hr.elim
  | .ok .cont, hr => exact hr.elim
  | .ok (.ret obj), hr =>
    obtain ⟨rfl, rfl⟩ := hr
    have hS : (s.heap.push ob).get? s.heap.objs.size = some ob := Heap.get?_push_size _ (by rw [← hob]; rfl)
    have hT : Shared.TypeIs { s with heap := s.heap.push ob } (.ref s.heap.objs.size) "set" := ⟨_, hS, by rw [← hob]⟩
    have d1 := F.called_set.init.lookup
    have d2 := F.called_set.init.bind (.ref s.heap.objs.size)
    repeat (any_goals (first | assumption | wp_step))

    refine codeAny_mono (codeAny_call_builtin (R := wants (fun r s2 => r = .none ∧ ∃ h' tk, s2 = { s with heap := h', toks := tk } ∧ TR P w h' s.heap.objs.size (upTo x x.cps.size) ∧ (∀ b o, s.heap.get? b = some o → h'.get? b = some o)) E) F.called_set.init.plain F.entry_set_init (check_set_init_1 hT ?_)) fun r2 s2 hr2 => ?_
    · have e1 := F.sub_str_set
      have e2 := F.sub_str_frozenset
      have hT2 : Shared.TypeIs { s with heap := s.heap.push ob } (.str x u) "str" := typeIs_str _ _ _
      have e3 : (Value.type "str" == Value.type "dict") = false := by decide
      subst hob
      unfold Builtin.«set.__init__» noKeywords Builtin.Frozenset.updateFrom
      generalize hPI : pyIter = PI
      wp_walk using wpAny_typeOf hT2
      subst hPI
      refine wpAny_pyIter_str fun o St W hst => ?_
      refine wpAny_bind (wpAny_runValue ?_)
      generalize hH : s.heap.push { cls := .type "set", dict := none, data := .set #[] 0 (.fresh 0 0 (!w.params.followText "set-order")) } = H at hS hT W hst ⊢
      have hHs : H.objs.size = s.heap.objs.size + 1 := by rw [← hH, Heap.size_push]
      have hSf : s.heap.objs.size ∉ [H.objs.size] := fun hm => by
        rw [List.mem_singleton, hHs] at hm
        omega
      have hS1 : (H.push o).get? s.heap.objs.size = some { cls := .type "set", dict := none, data := .set #[] 0 (.fresh 0 0 (!w.params.followText "set-order")) } := Heap.get?_push_of_some _ hS
      refine update_txt ((W A.in1.in1.in1 hh).toS) hSf hfew x.cps.size 0 _ (by omega) (Nat.zero_le _) hst ?hR0 ?hR
      case hR0 =>
        have z : upTo x 0 = [] := rfl
        rw [z]
        exact tr_new hS1
      case hR =>
        intro s' hm hR
        obtain ⟨h', g2, d2, tk2, os2⟩ := s'
        obtain rfl : g2 = s.gens := hm.gens
        obtain rfl : d2 = s.drawn := hm.drawn
        obtain rfl : os2 = s.os := hm.os
        show wpAny _ _ _ _ _ _
        refine wpAny_pure ?_
        show wpAny _ _ (ret Value.none) _ _ _
        refine wpAny_pure ⟨rfl, h', tk2, rfl, hR, fun b ob eb => ?_⟩
        have hlt := Heap.lt_size eb
        refine hm.heap b ob (fun z => ?_) (Heap.get?_push_of_some _ (by rw [← hH]; exact Heap.get?_push_of_some _ eb))
        rcases List.mem_cons.mp z with z | z
        · exact absurd hlt (by rw [z]; exact Nat.lt_irrefl _)
        · rw [List.mem_singleton, hHs] at z
          exact absurd hlt (by rw [z]; exact Nat.not_lt.mpr (Nat.le_succ _))
    · match r2, hr2 with
      | .error e, hr2 => exact hr2
      | .ok .next, hr2 => exact hr2.elim
      | .ok .brk, hr2 => exact hr2.elim
      | .ok .cont, hr2 => exact hr2.elim
      | .ok (.ret r), hr2 =>
        obtain ⟨rfl, h', tk, rfl, hR, hk⟩ := hr2
        repeat (any_goals (first | assumption | wp_step))
        exact h _ _ hR hk
end

/-- the set as a tracked object -/
def TO1 (P : Program) (w : World) (a : Addr) (l : List Str) : HO := .ext fun h => TR P w h a l
theorem to1_ok {P : Program} {w : World} {H : Hp} {h : Heap} {a : Addr} {l : List Str} (R : TR P w h a l) : ObjOk P w H h a (TO1 P w a l) := by
  have R' := R
  obtain ⟨D, ho, _⟩ := R'
  exact ⟨R, ⟨_, ho⟩, fun h1 h2 ⟨D, e, z⟩ k => ⟨D, k _ e, z⟩⟩

/-- the members, sorted as texts -/
def sgn (s : Str) : List D := (upTo s s.cps.size).map D.str
def strLe (a b : Str) : Bool := !PySem.W.dataLt (.str b) (.str a)
theorem strLe_eq (a b : Str) : strLe a b = decide (a.cps.toList ≤ b.cps.toList) := by
  have z := congrFun (congrFun (PySem.W.dataLe_str (fun x : Str => x)) a) b
  rw [← z]
  rfl
theorem strLe_trans (a b c : Str) (h1 : strLe a b = true) (h2 : strLe b c = true) : strLe a c = true := by
  rw [strLe_eq, decide_eq_true_eq] at *
  exact List.le_trans h1 h2
theorem strLe_total (a b : Str) : (strLe a b || strLe b a) = true := by
  rw [strLe_eq, strLe_eq, Bool.or_eq_true, decide_eq_true_eq, decide_eq_true_eq]
  exact List.le_total _ _
theorem strLe_anti {a b : Str} (h1 : strLe a b = true) (h2 : strLe b a = true) : a = b := by
  rw [strLe_eq, decide_eq_true_eq] at *
  have z : a.cps.toList = b.cps.toList := List.le_antisymm h1 h2
  cases a; cases b
  simpa using z
theorem sort_perm {l m : List Str} (p : l.Perm m) : l.mergeSort strLe = m.mergeSort strLe := by
  have a1 := List.pairwise_mergeSort strLe_trans strLe_total l
  have a2 := List.pairwise_mergeSort strLe_trans strLe_total m
  have q : (l.mergeSort strLe).Perm (m.mergeSort strLe) := (List.mergeSort_perm l _).trans (p.trans (List.mergeSort_perm m _).symm)
  exact List.Perm.eq_of_pairwise (fun a b _ _ h1 h2 => strLe_anti h1 h2) a1 a2 q
end Pd

/-! Pd: sorted(set(text)), the rule. -/
namespace Pd
open PySem PySem.Spec PyProof.Rows L2 PySem.Froz

section
variable {prog : Program} {w : World} {A : Around} {E : Value → Shared → Prop} {s : Shared}
/-- what an iterable gives when it is gathered -/
def GathersD (prog : Program) (w : World) (A : Around) (s : Shared) (v : Value) (G : List Value → Prop) : Prop := ∀ (E : Value → Shared → Prop) (Q : List Value → Shared → Prop),
  (∀ h' dr tk acc, (∀ b o, s.heap.get? b = some o → h'.get? b = some o) → G acc → Q acc { s with heap := h', drawn := dr, toks := tk }) → wpAny (model prog w) A (collect v) Q E s
/-- sorted(v): what is gathered, in a new list, sorted as data -/
theorem sorted_srcD {v : Value} {G : List Value → Prop} {β : Type} {enc : β → PyData} {R : Value → β → Prop} {Pb : List β → Prop} {Q : Value → Shared → Prop} (hc : GathersD prog w A.in1 s v G)
    (hG : ∀ h' acc, (∀ b o, s.heap.get? b = some o → h'.get? b = some o) → G acc → ∃ bs, bs.length ≤ sizeLine ∧ PySem.W.EachIs R acc bs ∧ PySem.W.EachIs (fun u b => ∃ as, Reads h' u (enc b) as) acc bs ∧ PySem.W.AllAlike (bs.map enc) ∧ PySem.W.Sortable (bs.map enc) ∧ (∀ b, b ∈ bs → A.units + 2 + (enc b).depth < cLine) ∧ Pb bs)
    (h : ∀ (h1 h' : Heap) dr (tk : Nat) (out : List Value) (n : Nat) bs, (∀ b o, s.heap.get? b = some o → h1.get? b = some o) → (∀ b o, s.heap.get? b = some o → h'.get? b = some o) → h'.get? h1.objs.size = some { cls := .type "list", data := .seq out.toArray n } → Pb bs → out.length = bs.length → PySem.W.EachIs R out (bs.mergeSort (PySem.W.dataLe false enc)) →
      Q (.ref h1.objs.size) { s with heap := h', drawn := dr, toks := tk }) : wpAny (model prog w) A (call (.builtin "sorted") [v]) Q E s := by
  refine Calls.call_function_entry kind_sorted plain_sorted entry_sorted (args_sorted1 _) ?_
  unfold Builtin.«sorted»
  refine wpAny_bind (m := checkCount "sorted" 1 1 _) (wpAny_pure ?_)
  refine wpAny_bind (hc _ _ fun h1 dr tk acc k1 ga => ?_)
  obtain ⟨bs, hL, e, er, hal, hk, hu, pb⟩ := hG h1 acc k1 ga
  have hz : acc.length ≤ sizeLine := by rw [e.length]; exact hL
  refine wpAny_bind (wpAny_newList ?_ hz)
  have hoL : (h1.push (seqObj "list" acc.toArray 0)).get? h1.objs.size = some (seqObj "list" acc.toArray 0) := Heap.get?_push_size _ rfl
  have old : ∀ {b : Addr} {o : Obj}, h1.get? b = some o → (PySem.W.sortingHeap (h1.push (seqObj "list" acc.toArray 0)) h1.objs.size acc).get? b = some o := fun {b o} z =>
    PySem.W.sortingHeap_old (Nat.ne_of_lt (Heap.lt_size z)) (Heap.get?_push_of_some _ z)
  have er' : PySem.W.EachIs (fun u b => ∃ as, Reads (PySem.W.sortingHeap (h1.push (seqObj "list" acc.toArray 0)) h1.objs.size acc) u (enc b) as) acc bs := er.mono fun _ _ ⟨as, r⟩ => ⟨as, PyProof.Rows.Reads.keeps (fun _ _ => old) r⟩
  obtain ⟨n, hn⟩ := sortedHeap_at (vs := acc) (out := (PySem.W.sortVals (PySem.W.dataKind (PySem.W.sortingHeap (h1.push (seqObj "list" acc.toArray 0)) h1.objs.size acc) (bs.map enc)) false acc acc).toArray) hoL
  refine wpAny_bind (wpAny_holding (wpAny_call_entry slot_list_sort ⟨_, hoL, rfl⟩ entry_list_sort
    (PySem.W.list_sort_vals (s := { s with heap := h1.push (seqObj "list" acc.toArray 0), drawn := dr, toks := tk }) hoL (PySem.W.SortsAt.data (s := { s with heap := PySem.W.sortingHeap (h1.push (seqObj "list" acc.toArray 0)) h1.objs.size acc, drawn := dr, toks := tk }) (PySem.W.each_map (R := fun u d => ∃ as, Reads (PySem.W.sortingHeap (h1.push (seqObj "list" acc.toArray 0)) h1.objs.size acc) u d as) enc er') hal hk (PySem.W.bound_map hu)) hz
      ⟨_, rfl, wpAny_pure ⟨_, rfl, h h1 _ dr _ _ n bs k1 (fun b o z => ?_) hn pb (by rw [PySem.W.sortVals_length false rfl]; exact e.length) (PySem.W.sortVals_data false e er' hal)⟩⟩) (args_list_sort _)))
  have hb : b < h1.objs.size := Heap.lt_size (k1 b o z)
  rw [sortedHeap_old (Nat.ne_of_lt hb) (by rw [size_push']; exact Nat.lt_succ_of_lt hb)]
  exact Heap.get?_push_of_some _ (k1 b o z)
end
theorem tr_gath {P : Program} {w : World} {A : Around} {s : Shared} {a : Addr} {l : List Str} (R : TR P w s.heap a l) (hA : A.handled = none) (hl : l.length < scanBound) : GathersD P w A s (.ref a) fun acc => ∃ ks : List Str, ks.Perm l ∧ Vals (ks.map V.str) acc := fun E Q q => by
  obtain ⟨D, ho, ts⟩ := R
  refine L2.collect_set (es := D.1) (ep := D.2.1) (t := D.2.2) hA ⟨_, ho, rfl, rfl⟩ ts.ok.fit (by rw [ts.ok.sz]; exact hl) ts.rs ts.ld fun s' out k _ g1 g2 hp => ?_
  obtain ⟨hp', gg, dd, tk, oo⟩ := s'
  simp only at g1 g2
  subst g1 g2
  refine q hp' dd tk out k ?_
  have all : ∀ v ∈ out, ∃ k u, v = Value.str k u := by
    intro v hv
    obtain ⟨e, he, rfl⟩ := List.mem_map.mp (hp.mem_iff.mp hv)
    exact ts.tx e he
  refine ⟨out.map fun v => txt (0, v), ?_, ?_⟩
  · have z : (out.map fun v => txt (0, v)).Perm ((D.1.toList.map (·.2)).map fun v => txt (0, v)) := hp.map _
    rw [List.map_map] at z
    exact z.trans ts.pm
  · clear hp
    induction out with
    | nil => exact .nil
    | cons v out ih =>
      obtain ⟨k, u, rfl⟩ := all v List.mem_cons_self
      exact .cons ⟨u, rfl⟩ (ih fun v hv => all v (List.mem_cons_of_mem _ hv))
theorem each_strs : ∀ {ks : List Str} {acc : List Value}, Vals (ks.map V.str) acc → PySem.W.EachIs (fun u k => L2.RelV (.str k) u) acc ks
  | [], _, r => by cases r; exact .nil
  | k :: ks, _, r => by
    rw [List.map_cons] at r
    cases r with
    | cons r1 r2 => exact .cons r1 (each_strs r2)
theorem strs_each : ∀ {ks : List Str} {acc : List Value}, PySem.W.EachIs (fun u k => L2.RelV (.str k) u) acc ks → Vals (ks.map V.str) acc
  | [], _, r => by cases r; exact .nil
  | k :: ks, _, r => by
    cases r with
    | cons r1 r2 => exact .cons r1 (strs_each r2)
/-- what sorted(set(x)) gives -/
def sortedSet (s : Str) : List D := ((upTo s s.cps.size).mergeSort strLe).map D.str
section
variable {X : Cx} {cls : Nat → Addr} {B : Base} {e : Expr} {pos p pos2 p2 : Pos} {f : DP}
def rSetTx (P : Program) (w : World) : List V → Hp → VK → Prop := fun xs H Q => ∃ z, xs = [.str z] ∧ (upTo z z.cps.size).length + 1 < scanBound ∧ ∀ a, H a = none → Q (.ref a) (upd H a (TO1 P w a (upTo z z.cps.size)))
theorem call_setTx (calm : X.calm = true) : CallR X (.type "set") (rSetTx X.prog X.w) := by
  intro pins s σ H xs us Q I r h
  obtain ⟨z, rfl, hz, q⟩ := h
  obtain ⟨u, rfl, tk, rfl⟩ := vals1 r
  refine call_set_txt (I.ok.hd calm) hz fun h' tk' R k => ?_
  have hn : H s.heap.objs.size = none := I.hok.fresh (Nat.le_refl _)
  exact ⟨.ref s.heap.objs.size, _, I.laid (t' := tk') k (Nat.le_refl _) (to1_ok R), rfl, q _ hn⟩
def rSortTx (P : Program) (w : World) : List V → Hp → VK → Prop := fun xs H Q => ∃ a l, xs = [.ref a] ∧ H a = some (TO1 P w a l) ∧ l.length < scanBound ∧ ∀ p, H p = none → Q (.ref p) (upd H p (.lst ((l.mergeSort strLe).map V.str)))
theorem call_sortTx (calm : X.calm = true) (hu : X.A.units + 64 < cLine) : CallR X (.builtin "sorted") (rSortTx X.prog X.w) := by
  intro pins s σ H xs us Q I r h
  obtain ⟨a, l, rfl, ha, hl, q⟩ := h
  obtain ⟨u, rfl, ru⟩ := vals1 r
  obtain rfl : u = Value.ref a := ru
  have R : TR X.prog X.w s.heap a l := (I.hok a _ ha).1
  have big : scanBound ≤ sizeLine := by decide
  refine sorted_srcD (β := Str) (enc := PyData.str) (R := fun u k => L2.RelV (.str k) u) (Pb := fun ks => ks.Perm l) (tr_gath (A := X.A.in1) R (I.ok.hd calm) hl) (fun h' acc k ⟨ks, p, rv⟩ => ?_) fun h1 h' dr tk out n bs k1 k2 ho pb hlen eo => ?_
  · have z : PySem.W.EachIs (fun u k => L2.RelV (.str k) u) acc ks := each_strs rv
    refine ⟨ks, by rw [p.length_eq]; omega, z, z.mono fun u k ⟨tk, e⟩ => ⟨_, by rw [e]; exact .str k tk⟩, PySem.W.AllAlike.of fun b b' => by simp [PySem.W.alike], PySem.W.Sortable.others fun b => ⟨(by intro z; cases z), fun xs z => by cases z⟩, fun b _ => ?_, p⟩
    have : (PyData.str b).depth = 0 := rfl
    omega
  · have e1 : bs.mergeSort (PySem.W.dataLe false PyData.str) = l.mergeSort strLe := by
      rw [← sort_perm pb]
      rfl
    rw [e1] at eo
    have rv : Vals ((l.mergeSort strLe).map V.str) out := strs_each eo
    have I1 : Inv X pins σ H { s with heap := h1, toks := tk } := I.kept k1
    have fr : H h1.objs.size = none := I1.hok.fresh (Nat.le_refl _)
    refine ⟨.ref h1.objs.size, upd H h1.objs.size (.lst ((l.mergeSort strLe).map V.str)), ?_, rfl, q _ fr⟩
    have lay : ObjOk X.prog X.w (upd H h1.objs.size (.lst ((l.mergeSort strLe).map V.str))) h' h1.objs.size (.lst ((l.mergeSort strLe).map V.str)) := by
      refine ⟨?_, out, n, rv, ho⟩
      rw [rv.length, hlen, pb.length_eq]
      omega
    have I2 : Inv X pins σ H { s with heap := h', toks := tk } := I.kept k2
    have I3 := I2.take (h' := h') (t' := tk) (fun b ob _ e => e) (I1.fpOk (b := h1.objs.size) (Nat.le_refl _) fr) lay
    have I4 := I3.call (ch := []) (g' := s.gens) (d' := dr) (t' := tk) Un.refl I3.hok I3.bare (fun _ z => nomatch z)
    exact I4
/-- sorted(set(e)) -/
def dSortSet (f : DP) : DP := fun env => match f env with
  | some (.str s) => if (upTo s s.cps.size).length < 4000 then some (.lst (sortedSet s)) else none
  | _ => none
theorem r_sortSet (calm : X.calm = true) (hu : X.A.units + 64 < cLine) (hg : Gl X "sorted") (hm : X.mg "sorted" = none) (hg2 : Gl X "set") (hm2 : X.mg "set" = none) (ha : PE X e (tD (tbX X cls) B f))
    (he : starEach [.Call (.Name "set" p2) [e] [] pos2] X.env = [(false, eval (.Call (.Name "set" p2) [e] [] pos2) X.env)] := by rfl) (he2 : starEach [e] X.env = [(false, eval e X.env)] := by rfl) (hpl : (backTo pos (starEach [] X.env)).any (·.1) = false := by rfl) (hpl2 : (backTo pos2 (starEach [] X.env)).any (·.1) = false := by rfl) :
    PE X (.Call (.Name "sorted" p) [.Call (.Name "set" p2) [e] [] pos2] [] pos) (tO (tbX X cls) B (dSortSet f)) :=
  weakE (pe_callB (id := "sorted") (call_sortTx calm hu) hg hm (by rfl) (pa_cons (pe_callTy (T := "set") (call_setTx calm) hg2 hm2 (by rfl) (pa_cons ha pa_nil he2) (he := he2) (hpl := hpl2)) pa_nil he) (he := he) (hpl := hpl)) fun σ H Q ⟨F, env, d, r, e, k⟩ => by
  unfold dSortSet at e
  split at e
  · rename_i z q
    split at e
    · rename_i hz
      cases e
      have b1 : (4000 : Nat) + 1 ≤ scanBound := by decide
      refine ⟨F, env, _, r, q, fun F1 H1 v g1 iv => ?_⟩
      simp only [Is] at iv
      refine ⟨z, by rw [iv], by omega, fun a ha => ⟨a, _, rfl, upd_same, ?_, fun l hl => ?_⟩⟩
      · omega
      · have g2 := g1.trans (Grow.side (o := TO1 X.prog X.w a (upTo z z.cps.size)) g1.fh ha)
        have g3 := g2.trans (Grow.side (o := HO.lst (((upTo z z.cps.size).mergeSort strLe).map V.str)) g2.fh hl)
        refine k F1 _ l g3 ⟨l, _, rfl, g2.fh.free hl, upd_same, ?_⟩ (g2.hh.free hl)
        unfold sortedSet
        generalize (upTo z z.cps.size).mergeSort strLe = m
        clear hl g3 k
        induction m with
        | nil => exact IsL.nil
        | cons x m ih => exact IsL.cons (by simp only [Is]) ih
    · cases e
  · cases e
end
end Pd

/-! Pd: defs that raise, raise, try: f(..) except X as e: return [isinstance(e, ..), ..]. -/
namespace Pd
open PySem PySem.Spec PyProof.Rows L2

inductive Res where
  | ok (d : D) | ex (c : Nat)
/-- the promise of a def that hands back data or raises an own exception -/
def spX (T : Tb) (n : Nat) (m : List D → Option Res) : Sp := fun vs H Q E => ∃ F ds r, Same F H ∧ IsL T F vs ds ∧ ds.length = n ∧ m ds = some r ∧
  match r with
  | .ok d => ∀ F' H' v, Grow F H F' H' → Is T F' v d → Q v H'
  | .ex c => ∀ F' H', Grow F H F' H' → E (.ref (T.cls c)) none H'
theorem spX_len {T : Tb} {n : Nat} {m : List D → Option Res} {vs : List V} {H : Hp} {Q : VK} {E : XK} (h : spX T n m vs H Q E) : vs.length = n := by
  obtain ⟨F, ds, r, _, i, hl, _⟩ := h
  rw [i.length, hl]
def okOf (m : List D → Option Res) (ds : List D) : Option D := match m ds with
  | some (.ok d) => some d
  | _ => none
/-- .. where it does not raise -/
theorem fnX_D {P : Program} {w : World} {K : PySem.W.Frag} {mg : Str → Option Value} {base : Heap} {CX : CXT} {k : Nat} {f : Addr} {fd : FuncData} {ps : List Str} {T : Tb} {n : Nat} {m : List D → Option Res} (F : FnOk P w K mg base CX k f fd ps (spX T n m)) :
    FnOk P w K mg base CX k f fd ps (spD T n (okOf m)) := F.imp fun vs H Q E ⟨F0, ds, d, s, i, hl, e, q⟩ => by
  unfold okOf at e
  split at e
  · rename_i d' e'
    cases e
    exact ⟨F0, ds, .ok d, s, i, hl, e', q⟩
  · cases e
def runX (n : Nat) (s : DS) (ds : List D) : Option Res := match s (env0 n ds) with
  | some (.rt d) => some (.ok d)
  | some (.nx _) => some (.ok .non)
  | some (.rs c) => some (.ex c)
  | _ => none
def wEx (cls : Nat → Addr) (E : XK) : Nat → Hp → Prop := fun c H => E (.ref (cls c)) none H
theorem fnX_ok {P : Program} {w : World} {K : PySem.W.Frag} {mg : Str → Option Value} {base : Heap} {x qual : Str} {st : Stmt} {f : Addr} {fd : FuncData} {N ps : List Str} {k : Nat} {cls : Nat → Addr} {s : DS} (F : Fun K x qual st f fd) (S : FnScope N ps (defScope st))
    (hbody : ∀ (cdv : Value) (A : Around) (outer : List Env) (s0 : Shared) (H : Hp) (E : XK) (B : Base), Room k (A.deeper (envOfC qual (defScope st) s0.heap.objs.size f cdv)) →
      PSs (cxOf (L2.CX P w) P w K mg base N qual (defScope st) f cdv A outer s0 H E) (defBody st) (tS ⟨P, w, K, cls⟩ B (wEx cls E) s)) :
    FnOk P w K mg base (L2.CX P w) (k + 1) f fd ps (spX ⟨P, w, K, cls⟩ ps.length (runX N.length s)) := by
  refine F.okX S (fun vs H Q E h => spX_len h) (fun cdv A outer s0 H vs Q E hr h => ?_)
  obtain ⟨F0, ds, r, sm, i, hl, e, k⟩ := h
  refine ⟨_, hbody cdv A outer s0 H E ⟨F0, H, 0⟩ hr, ?_⟩
  unfold runX at e
  split at e
  · rename_i d' q
    cases e
    exact ⟨F0, _, _, rel0 sm i, q, fun F' H' v fin iv => k F' H' v ⟨fin.bf, fin.bh, fin.fh, fin.nw⟩ iv⟩
  · rename_i e' q
    cases e
    exact ⟨F0, _, _, rel0 sm i, q, fun F' σ' H' _ r => k F' H' .non ⟨r.bf, r.bh, r.fh, r.nw⟩ (by simp only [Is])⟩
  · rename_i c q
    cases e
    exact ⟨F0, _, _, rel0 sm i, q, fun F' H' fin => k F' H' ⟨fin.bf, fin.bh, fin.fh, fin.nw⟩⟩
  · cases e

section
variable {X : Cx} {cls : Nat → Addr} {B : Base} {W : Nat → Hp → Prop} {e a b : Expr} {es : List Expr} {pos p p2 : Pos} {f : DP} {fr : DPs} {st : Stmt} {ss : List Stmt} {x : Str} {i c n lv : Nat}
/-- never reached -/
def dNo : DS := fun _ => none
def dNoE : DP := fun _ => none
theorem r_no : PS X st (tS (tbX X cls) B W dNo) := ⟨fun pins s σ H D I ⟨F, env, o, r, e, k⟩ => by cases e⟩
theorem r_nos : PSs X ss (tS (tbX X cls) B W dNo) := ⟨fun pins s σ H D I ⟨F, env, o, r, e, k⟩ => by cases e⟩
theorem r_noE : PE X e (tD (tbX X cls) B dNoE) := ⟨fun pins s σ H D I ⟨F, env, o, r, e, k⟩ => by cases e⟩
/-- raise C('..') -/
def dRaise (c : Nat) : DS := fun _ => some (.rs c)
theorem r_raise {m : Str} {j : Nat} {p2 pos' : Pos} {bmB : List Value} {Bn newId initId : String} {E : XK} (hc : X.calm = true) (tk : Takes X (fun cl d _ H => E cl d H)) (Fb : ExcBaseFacts Bn newId initId bmB) (q : PySem.W.excIn X.K (cls c) bmB newId = true) (gC : X.mg x = some (.ref (cls c))) (kC : PySem.W.keepIn X.K (.ref (cls c)) = true)
    (r1 : PySem.W.subIn X.K (.ref (cls c)) (.type "BaseException") = some true) (r2 : PySem.W.typeIn X.K (.ref (cls c)) = some (.type "type")) (hg : Gl X x) (hdb : (x == ("__debug__" : Str)) = false := by decide) :
    PS X (.Raise (some (.Call (.Name x p) [.Constant (.str m) j p2] [] pos')) none pos) (tS (tbX X cls) B (wEx cls E) (dRaise c)) := weakS (ps_raise hc tk (pmk_own Fb q gC kC (raises_own r1 r2) hg hdb)) fun D σ H ⟨F, env, o, r, e, k⟩ => by
  cases e
  exact k F H r.fin

/-! ### a call that may raise, as a statement -/
variable {E : XK} {fA : Addr} {fd : FuncData} {ps : List Str} {m : List D → Option Res} {dvs : List V} {dvv : List Value} {dd : List D}
def dExpX (n : Nat) (m : List D → Option Res) (fr : DPs) : DS := fun env => match fr env with
  | some ds => if ds.length = n then match m ds with
    | some (.ok _) => some (.nx env)
    | some (.ex c) => some (.rs c)
    | none => none
    else none
  | none => none
def dSetX (i n : Nat) (m : List D → Option Res) (fr : DPs) : DS := fun env => match fr env with
  | some ds => if ds.length = n then match m ds with
    | some (.ok d) => some (.nx (env.set i (some (d, .fz))))
    | some (.ex c) => some (.rs c)
    | none => none
    else none
  | none => none
theorem r_expX (G : FnOk X.prog X.w X.K X.mg X.base (L2.CX X.prog X.w) lv fA fd ps (spX (tbX X cls) n m)) (hr : Room lv X.A) (hg : Gl X x) (hm : X.mg x = some (.ref fA)) (hk : PySem.W.keepIn X.K (.ref fA) = true) (hb : Binds X.K fd ps []) (tk : Takes X (fun cl d _ H => E cl d H))
    (ha : PA X (e :: es) (tAs (tbX X cls) B fr)) (hdb : (x == ("__debug__" : Str)) = false := by decide) (he : starEach (e :: es) X.env = (false, eval e X.env) :: starEach es X.env := by rfl) (hpl : (backTo p2 (starEach es X.env)).any (·.1) = false := by rfl)
    (hs : swapsWith (.Call (.Name x p) (e :: es) [] p2) none pos.line X.env = pure false := by rfl) :
    PS X (.Expr (.Call (.Name x p) (e :: es) [] p2) pos) (tS (tbX X cls) B (wEx cls E) (dExpX n m fr)) := weakS (ps_expr (pe_call (E := E) G hr hg hm hk hb .nil (passes_call tk fun _ _ _ _ h => h) ha hdb he hpl) hs) fun D σ H ⟨F, env, o, r, e, k⟩ => by
  unfold dExpX at e
  split at e
  · rename_i ds q
    split at e
    · rename_i hl
      refine ⟨F, env, ds, r, q, fun F1 H1 vs g1 iv => ?_⟩
      split at e
      · rename_i d em
        cases e
        exact ⟨F1, ds, .ok d, g1.fh, by simpa using iv, hl, em, fun F2 H2 v g2 _ => k F2 σ H2 (g1.ff.trans g2.ff) (r.grow (g1.trans g2))⟩
      · rename_i c em
        cases e
        exact ⟨F1, ds, .ex c, g1.fh, by simpa using iv, hl, em, fun F2 H2 g2 => k F2 H2 (r.grow (g1.trans g2)).fin⟩
      · cases e
    · cases e
  · cases e
theorem r_setX {tg : Expr} {g : ∀ {te : TE}, PE X (.Call (.Name x p) (e :: es) [] p2) te → PS X (.Assign [tg] (.Call (.Name x p) (e :: es) [] p2) pos) (tAsg te (gName i))} (G : FnOk X.prog X.w X.K X.mg X.base (L2.CX X.prog X.w) lv fA fd ps (spX (tbX X cls) n m)) (hr : Room lv X.A) (hg : Gl X x)
    (hm : X.mg x = some (.ref fA)) (hk : PySem.W.keepIn X.K (.ref fA) = true) (hb : Binds X.K fd ps []) (tk : Takes X (fun cl d _ H => E cl d H)) (ha : PA X (e :: es) (tAs (tbX X cls) B fr)) (hdb : (x == ("__debug__" : Str)) = false := by decide)
    (he : starEach (e :: es) X.env = (false, eval e X.env) :: starEach es X.env := by rfl) (hpl : (backTo p2 (starEach es X.env)).any (·.1) = false := by rfl) :
    PS X (.Assign [tg] (.Call (.Name x p) (e :: es) [] p2) pos) (tS (tbX X cls) B (wEx cls E) (dSetX i n m fr)) := weakS (g (pe_call (E := E) G hr hg hm hk hb .nil (passes_call tk fun _ _ _ _ h => h) ha hdb he hpl)) fun D σ H ⟨F, env, o, r, e, k⟩ => by
  unfold dSetX at e
  split at e
  · rename_i ds q
    split at e
    · rename_i hl
      refine ⟨F, env, ds, r, q, fun F1 H1 vs g1 iv => ?_⟩
      split at e
      · rename_i d em
        cases e
        exact ⟨F1, ds, .ok d, g1.fh, by simpa using iv, hl, em, fun F2 H2 v g2 jv => k F2 _ H2 (g1.ff.trans g2.ff) ((r.grow (g1.trans g2)).set jv)⟩
      · rename_i c em
        cases e
        exact ⟨F1, ds, .ex c, g1.fh, by simpa using iv, hl, em, fun F2 H2 g2 => k F2 H2 (r.grow (g1.trans g2)).fin⟩
      · cases e
    · cases e
  · cases e

/-! ### try: f(..) / except X as e: return [isinstance(e, C), ..] -/
/-- isinstance(e, C), ..: the classes asked for -/
def tIsE (K : PySem.W.Frag) (i : Nat) (ad : Addr) (cl : Value) (cs : List Value) : TA := fun σ H Q => σ[i]? = some (some (V.ref ad)) ∧ ∃ bs : List Bool, cs.map (PySem.W.kitOne K cl) = bs.map some ∧ Q (bs.map V.bl) H
theorem pa_is0 {ad : Addr} {cl : Value} : PA X [] (tIsE X.K i ad cl []) := weakA pa_nil fun σ H Q ⟨_, bs, e, q⟩ => by
  cases bs with
  | nil => exact q
  | cons _ _ => cases e
theorem pa_isC {oe : Obj} {pn : List (Addr × Obj)} {ad D0 : Addr} {cs : List Value} {cv : Value} {vv : V} {cn y : Str} {yp cp ip ap : Pos} (C : ExcC X.K D0) (hz : Zc (.ref D0) none oe) (hf : ∃ vs, oe.data = .fields vs) (hi : Gl X "isinstance") (hm : X.mg "isinstance" = none)
    (hy : PE (X.suite ad ((ad, oe) :: pn)) (.Name y yp) (tVar i)) (hc : PE (X.suite ad ((ad, oe) :: pn)) (.Name cn cp) (tC vv)) (hv : ∀ u, L2.RelV vv u → u = cv) (hr : PA (X.suite ad ((ad, oe) :: pn)) es (tIsE X.K i ad (.ref D0) cs))
    (s1 : starEach (.Call (.Name "isinstance" ip) [.Name y yp, .Name cn cp] [] ap :: es) X.env = (false, eval (.Call (.Name "isinstance" ip) [.Name y yp, .Name cn cp] [] ap) X.env) :: starEach es X.env := by rfl)
    (s2 : starEach [.Name y yp, .Name cn cp] X.env = (false, eval (.Name y yp) X.env) :: starEach [.Name cn cp] X.env := by rfl) (s3 : starEach [.Name cn cp] X.env = (false, eval (.Name cn cp) X.env) :: starEach [] X.env := by rfl) (hpl : (backTo ap (starEach [.Name cn cp] X.env)).any (·.1) = false := by rfl) :
    PA (X.suite ad ((ad, oe) :: pn)) (.Call (.Name "isinstance" ip) [.Name y yp, .Name cn cp] [] ap :: es) (tIsE X.K i ad (.ref D0) (cv :: cs)) :=
  weakA (pa_cons (pe_callB (X := X.suite ad ((ad, oe) :: pn)) (id := "isinstance") (call_isE C hz hf) hi hm (by rfl) (pa_cons hy (pa_cons hc pa_nil s3) s2) (he := s2) (hpl := hpl)) hr s1) fun σ H Q ⟨hs, bs, eb, q⟩ => by
  cases bs with
  | nil => cases eb
  | cons b bs =>
    simp only [List.map_cons, List.cons.injEq] at eb
    exact ⟨.ref ad, hs, vv, cv, b, rfl, hv, eb.1, hs, bs, eb.2, q⟩
theorem isl_bl {T : Tb} {F : Hp} : ∀ bs : List Bool, IsL T F (bs.map V.bl) (bs.map D.bl)
  | [] => IsL.nil
  | b :: bs => IsL.cons (by simp only [Is]) (isl_bl bs)
/-- hand: what the suite hands back for the exception number c -/
def dTry (i n : Nat) (m : List D → Option Res) (fr : DPs) (hand : Nat → Option (List Bool)) : DS := fun env => match fr env with
  | some ds => if ds.length = n ∧ i < env.length then match m ds with
    | some (.ok _) => some (.nx env)
    | some (.ex c) => match hand c with
      | some bs => if bs.length ≤ smallL then some (.rt (.lst (bs.map D.bl))) else none
      | none => none
    | none => none
    else none
  | none => none
theorem r_try {ex nm : Str} {cT : Value} {hand : Nat → Option (List Bool)} {cs : List Value} {els : List Expr} {np hp rp lp tp : Pos} (G : FnOk X.prog X.w X.K X.mg X.base (L2.CX X.prog X.w) lv fA fd ps (spX (tbX X cls) n m)) (hr : Room lv X.A) (hg : Gl X x) (hm : X.mg x = some (.ref fA)) (hk : PySem.W.keepIn X.K (.ref fA) = true) (hb : Binds X.K fd ps [])
    (hst : X.stack = X.env :: X.outer) (hf : X.env.frame = some X.env.locals) (hN : X.N.Nodup) (hi : X.N[i]? = some nm) (hln : X.env.kindOf nm = some .local) (hc : Names X ex cT)
    (hcatch : ∀ c bs, hand c = some bs → PySem.W.exmOne X.K (.ref (cls c)) cT = some true ∧ cs.map (PySem.W.kitOne X.K (.ref (cls c))) = bs.map some)
    (hel : ∀ (ad : Addr) (oe : Obj) (c : Nat) (pn : List (Addr × Obj)), (hand c).isSome = true → Zc (.ref (cls c)) none oe → (∃ vs, oe.data = .fields vs) → PA (X.suite ad ((ad, oe) :: pn)) els (tIsE X.K i ad (.ref (cls c)) cs))
    (ha : ∀ (pn : List (Addr × Obj)) (xe : Value → Shared → Prop), PA (X.tr pn xe) (e :: es) (tAs (tbX X cls) B fr)) (hdb : (x == ("__debug__" : Str)) = false := by decide) (he : starEach (e :: es) X.env = (false, eval e X.env) :: starEach es X.env := by rfl) (hpl : (backTo p2 (starEach es X.env)).any (·.1) = false := by rfl)
    (hsw : swapsWith (.Call (.Name x p) (e :: es) [] p2) none pos.line X.env = pure false := by rfl) (hne : els ≠ []) :
    PS X (.Try [.Expr (.Call (.Name x p) (e :: es) [] p2) pos] [.ExceptHandler (some (.Name ex np)) (some nm) [.Return (some (.List els lp)) rp] hp] [] [] tp) (tS (tbX X cls) B W0 (dTry i n m fr hand)) := by
  have tk : Takes X (fun _ _ _ _ => False) := takes0
  -- what the suite says, for any exception of the body
  have suite : ∀ (ad : Addr) (oe : Obj) (cl : Value) (d : Option Addr) (pn : List (Addr × Obj)), Zc cl d oe → (∃ vs, oe.data = .fields vs) → PSs (X.suite ad ((ad, oe) :: pn)) [.Return (some (.List els lp)) rp]
      (fun D σ H => (d = none ∧ ∃ c, cl = .ref (cls c) ∧ (hand c).isSome = true) ∧ tIsE X.K i ad cl cs σ H fun vs H1 => vs.length ≤ sizeLine ∧ ∀ p, H1 p = none → D.rt (.ref p) (upd H1 p (.lst vs))) := fun ad oe cl d pn hz hfd => by
    refine ⟨fun pins s σ H D I ⟨⟨hd, c, hcl, hh⟩, q⟩ => ?_⟩
    subst hd hcl
    exact (pss_one (ps_ret (pe_lst (hel ad oe c pn hh hz hfd)))).run pins s σ H D I q
  refine weakS (ps_try_as (i := i) (tb := fun W0 => fun D σ H => tCallS (spX (tbX X cls) n m) (WE W0) (tAs (tbX X cls) B fr) σ H fun v H1 => D.nx σ H1) hst hf hN hi hln hc tk (fun W1 pn xe tk1 _ => ?_) suite) fun D σ H ⟨F, env, o, r, e, k⟩ => ?_
  · exact pss_one (ps_expr (pe_callS (X := X.tr pn xe) (E := WE W1) G hr hg hm hk hb (fun σ => passAt (X := X.tr pn xe) tk1 σ) (ha pn xe) hdb he hpl) hsw)
  · unfold dTry at e
    split at e
    · rename_i ds q
      split at e
      · rename_i hl
        refine ⟨F, env, ds, r, q, fun F1 H1 vs g1 iv => ?_⟩
        split at e
        · rename_i d em
          cases e
          exact ⟨F1, ds, .ok d, g1.fh, iv, hl.1, em, fun F2 H2 v g2 _ => k F2 σ H2 (g1.ff.trans g2.ff) (r.grow (g1.trans g2))⟩
        · rename_i c em
          split at e
          · rename_i bs hh
            split at e
            · rename_i hz
              cases e
              obtain ⟨c1, c2⟩ := hcatch c bs hh
              refine ⟨F1, ds, .ex c, g1.fh, iv, hl.1, em, fun F2 H2 g2 => ⟨true, c1, fun _ ad na => ⟨⟨rfl, c, rfl, by rw [hh]; rfl⟩, ?_, bs, c2, ?_, fun l hl0 => ?_⟩, fun z => by cases z⟩⟩
              · rw [List.getElem?_set_self (by rw [r.len]; exact hl.2)]
              · rw [List.length_map]; exact small_line hz
              · have g12 := g1.trans g2
                have g3 := Grow.new (o := HO.lst (bs.map V.bl)) g12.fh hl0
                refine k _ _ _ (r.grow (g12.trans g3)).fin ?_
                simp only [Is]
                exact ⟨l, _, rfl, SqL.of upd_same, isl_bl bs⟩
            · cases e
          · cases e
        · cases e
      · cases e
    · cases e
end
end Pd

/-! Pd: defs with all that a call of them wants; more small rules. -/
namespace Pd
open PySem PySem.Spec PyProof.Rows L2

/-- a def that keeps its promise sp, with what a call of it wants; dvs: the defaults that fill up -/
structure DOk (P : Program) (w : World) (K : PySem.W.Frag) (mg : Str → Option Value) (base : Heap) (CX : CXT) (lv : Nat) (f : Addr) (ps : List Str) (dvs : List V) (sp : Sp) : Prop where
  ok : ∃ fd dvv, FnOk P w K mg base CX lv f fd ps sp ∧ Binds K fd ps dvv ∧ Vals dvs dvv
  kp : PySem.W.keepIn K (.ref f) = true
section
variable {P : Program} {w : World} {K : PySem.W.Frag} {mg : Str → Option Value} {base : Heap} {CX : CXT} {lv : Nat} {f : Addr} {ps : List Str} {dvs : List V} {sp : Sp} {T : Tb} {n : Nat} {m : List D → Option Res}
theorem DOk.toD (D : DOk P w K mg base CX lv f ps dvs (spX T n m)) : DOk P w K mg base CX lv f ps dvs (spD T n (okOf m)) :=
  ⟨let ⟨fd, dvv, G, b, v⟩ := D.ok; ⟨fd, dvv, fnX_D G, b, v⟩, D.kp⟩
end
section
variable {X : Cx} {cls : Nat → Addr} {B : Base} {W : Nat → Hp → Prop} {e a b o slice : Expr} {es : List Expr} {pos p p2 apos cp : Pos} {f fa fb fo : DP} {fr : DPs} {c i n lv : Nat} {x mn name : Str} {CX : CXT} {fA C q pA : Addr} {ps : List Str} {dvs : List V} {dd : List D} {m : List D → Option D} {mX : List D → Option Res} {mc : Value} {E : XK}
theorem r_callK (G : DOk X.prog X.w X.K X.mg X.base CX lv fA ps [] (spD (tbX X cls) n m)) (hr : Room lv X.A) (hg : Gl X x) (hm : X.mg x = some (.ref fA)) (hx : Passes CX X E0) (ha : PA X (e :: es) (tAs (tbX X cls) B fr)) (hdb : (x == ("__debug__" : Str)) = false := by decide)
    (he : starEach (e :: es) X.env = (false, eval e X.env) :: starEach es X.env := by rfl) (hpl : (backTo pos (starEach es X.env)).any (·.1) = false := by rfl) : PE X (.Call (.Name x p) (e :: es) [] pos) (tD (tbX X cls) B (dCall n m [] fr)) := by
  obtain ⟨fd, dvv, F, b, v⟩ := G.ok
  exact r_call F hr hg hm G.kp b v (fun _ => IsL.nil) hx ha hdb he hpl
theorem r_methK {pl : Sem Bool} (G : DOk X.prog X.w X.K X.mg X.base CX lv fA ps [] (spD (tbX X cls) n m)) (hc : Cls X.K (cls c)) (hm : Meth X.K (cls c) mn fA) (hr : Room lv X.A) (hx : Passes CX X E0) (ho : PE X o (tD (tbX X cls) B fo)) (ha : PA X (e :: es) (tAs (tbX X cls) B fr))
    (hst : starEach (e :: es) X.env = (false, eval e X.env) :: starEach es X.env := by rfl) (hpl : (backTo pos (starEach es X.env)).any (·.1) = false := by rfl)
    (ht : eval (.Call (.Attribute o mn apos) (e :: es) [] pos) X.env = (do
      let ov ← eval o X.env
      standAt apos.atName
      let (f, first) ← holding [ov] (getMethod ov mn pl)
      callWith pos f first (backTo pos (starEach (e :: es) X.env)) (backToKw pos (keywordEach [] X.env))) := by rfl) :
    PE X (.Call (.Attribute o mn apos) (e :: es) [] pos) (tD (tbX X cls) B (dMeth c mn n m [] fo fr)) := by
  obtain ⟨fd, dvv, F, b, v⟩ := G.ok
  exact r_meth hc hm F hr b v (fun _ => IsL.nil) hx ho ha hst hpl ht
theorem r_meth0K {pl : Sem Bool} (G : DOk X.prog X.w X.K X.mg X.base CX lv fA ps [] (spD (tbX X cls) n m)) (hc : Cls X.K (cls c)) (hm : Meth X.K (cls c) mn fA) (hr : Room lv X.A) (hx : Passes CX X E0) (ho : PE X o (tD (tbX X cls) B fo))
    (ht : eval (.Call (.Attribute o mn apos) [] [] pos) X.env = (do
      let ov ← eval o X.env
      standAt apos.atName
      let (f, first) ← holding [ov] (getMethod ov mn pl)
      callWith pos f first (backTo pos (starEach [] X.env)) (backToKw pos (keywordEach [] X.env))) := by rfl) :
    PE X (.Call (.Attribute o mn apos) [] [] pos) (tD (tbX X cls) B (dMeth c mn n m [] fo dNil)) := by
  obtain ⟨fd, dvv, F, b, v⟩ := G.ok
  exact r_meth0 hc hm F hr b v (fun _ => IsL.nil) hx ho ht
theorem r_makeK (G : DOk X.prog X.w X.K X.mg X.base CX lv fA ps dvs (spI (tbX X cls) c n m)) (M : Mk X.K (cls c) fA) (hr : Room (lv + 1) X.A) (hg : Gl X x) (hm : X.mg x = some (.ref (cls c))) (hdd : ∀ F, IsL (tbX X cls) F dvs dd) (hx : Passes CX X E0) (ha : PA X (e :: es) (tAs (tbX X cls) B fr))
    (hdb : (x == ("__debug__" : Str)) = false := by decide) (he : starEach (e :: es) X.env = (false, eval e X.env) :: starEach es X.env := by rfl) (hpl : (backTo pos (starEach es X.env)).any (·.1) = false := by rfl) : PE X (.Call (.Name x p) (e :: es) [] pos) (tO (tbX X cls) B (dMake n m dd fr)) := by
  obtain ⟨fd, dvv, F, b, v⟩ := G.ok
  exact r_make M F hr hg hm b v hdd hx ha hdb he hpl
theorem r_statK {pl : Sem Bool} (G : DOk X.prog X.w X.K X.mg X.base CX lv fA ps [] (spD (tbX X cls) n m)) (S : SMet X.K C mc mn q fA) (hgc : Gl X x) (hmc : X.mg x = some (.ref C)) (hr : Room lv X.A) (hx : Passes CX X E0) (ha : PA X (e :: es) (tAs (tbX X cls) B fr))
    (hcd : (x == ("__debug__" : Str)) = false := by decide) (hst : starEach (e :: es) X.env = (false, eval e X.env) :: starEach es X.env := by rfl) (hpl : (backTo pos (starEach es X.env)).any (·.1) = false := by rfl)
    (ht : eval (.Call (.Attribute (.Name x p) mn apos) (e :: es) [] pos) X.env = (do
      let ov ← eval (.Name x p) X.env
      standAt apos.atName
      let (f, first) ← holding [ov] (getMethod ov mn pl)
      callWith pos f first (backTo pos (starEach (e :: es) X.env)) (backToKw pos (keywordEach [] X.env))) := by rfl) :
    PE X (.Call (.Attribute (.Name x p) mn apos) (e :: es) [] pos) (tD (tbX X cls) B (dCall n m [] fr)) := by
  obtain ⟨fd, dvv, F, b, v⟩ := G.ok
  exact r_stat S hgc hmc F hr b v (fun _ => IsL.nil) hx ha hcd hst hpl ht
theorem bind0 {fd : FuncData} {dvv : List Value} (b : Binds X.K fd ps dvv) (v : Vals [] dvv) : Binds X.K fd ps [] := by
  cases v
  exact b
theorem r_propK (G : DOk X.prog X.w X.K X.mg X.base CX lv fA ps [] (spD (tbX X cls) 1 m)) (hc : Cls X.K (cls c)) (hp : PropOf X.K (cls c) name pA fA) (hr : Room (lv + 1) X.A) (hx : Passes CX X.nox E0) (ha : PE X a (tD (tbX X cls) B fa)) (hab : attributeBase a name X.env (eval a X.env) = eval a X.env := by rfl) :
    PE X (.Attribute a name pos) (tD (tbX X cls) B (dProp c m fa)) := by
  obtain ⟨fd, dvv, F, b, v⟩ := G.ok
  exact r_prop hc hp F hr (bind0 b v) hx ha hab
theorem r_ownK {op : Operator} (G : DOk X.prog X.w X.K X.mg X.base CX lv fA ps [] (spD (tbX X cls) 2 m)) (hs : Meth X.K (cls c) (PySem.dunder op.info.2) fA) (sf : PySem.W.selfFirst X.K (cls c) = true) (hr : Room lv X.A) (hx : Passes CX X E0) (ha : PE X a (tD (tbX X cls) B fa)) (hb : PE X b (tD (tbX X cls) B fb)) :
    PE X (.BinOp a op b pos) (tD (tbX X cls) B (dBin (gOwn c m) fa fb)) := by
  obtain ⟨fd, dvv, F, b, v⟩ := G.ok
  exact r_own ⟨hs.at_, hs.fn⟩ sf F hr (bind0 b v) hx ha hb
theorem r_negOK (G : DOk X.prog X.w X.K X.mg X.base CX lv fA ps [] (spD (tbX X cls) 1 m)) (hs : Meth X.K (cls c) "__neg__" fA) (hr : Room lv X.A) (hx : Passes CX X E0) (ha : PE X a (tD (tbX X cls) B fa)) : PE X (.UnaryOp .USub a pos) (tD (tbX X cls) B (dNegO c m fa)) := by
  obtain ⟨fd, dvv, F, b, v⟩ := G.ok
  exact r_negO ⟨hs.at_, hs.fn⟩ F hr (bind0 b v) hx ha
theorem r_truOK (G : DOk X.prog X.w X.K X.mg X.base CX lv fA ps [] (spD (tbX X cls) 1 m)) (hs : Meth X.K (cls c) "__bool__" fA) (hr : Room lv X.A) (hx : Passes CX X E0) (ha : PE X a (tD (tbX X cls) B fa))
    (he : ∀ whole, isTrue a X.env whole = (do let v ← whole; standAt a.pos; holding [v] (truthy v)) := by intro _; rfl) : PT X a (tTt (tbX X cls) B (dTruO c m fa)) := by
  obtain ⟨fd, dvv, F, b, v⟩ := G.ok
  exact r_truO ⟨hs.at_, hs.fn⟩ F hr (bind0 b v) hx ha he
theorem r_lenOK (G : DOk X.prog X.w X.K X.mg X.base CX lv fA ps [] (spD (tbX X cls) 1 m)) (hs : Meth X.K (cls c) "__len__" fA) (hr : Room (lv + 1) X.A) (hx : Passes CX X E0) (ha : PE X a (tD (tbX X cls) B fa)) (hg : Gl X "len") (hm : X.mg "len" = none)
    (he : starEach [a] X.env = [(false, eval a X.env)] := by rfl) (hpl : (backTo pos (starEach [] X.env)).any (·.1) = false := by rfl) : PE X (.Call (.Name "len" p) [a] [] pos) (tD (tbX X cls) B (dLenO c m fa)) := by
  obtain ⟨fd, dvv, F, b, v⟩ := G.ok
  exact r_lenO ⟨hs.at_, hs.fn⟩ F hr (bind0 b v) hx ha hg hm he hpl
theorem r_subOK (G : DOk X.prog X.w X.K X.mg X.base CX lv fA ps [] (spD (tbX X cls) 2 m)) (hs : Meth X.K (cls c) "__getitem__" fA) (hfi : PySem.W.fnIn X.K fA = true) (hr : Room (lv + 1) X.A) (hx : Passes CX X E0) (ho : PE X o (tD (tbX X cls) B fo)) (ha : PE X slice (tD (tbX X cls) B fa))
    (hsl : ∀ ov iv, subscripted slice true ov iv = runValue (.builtin "lifetime.subscript" ⟨[ov, iv], []⟩) := by intro _ _; with_unfolding_all rfl) : PE X (.Subscript o slice pos) (tD (tbX X cls) B (dSubO c m fo fa)) := by
  obtain ⟨fd, dvv, F, b, v⟩ := G.ok
  exact r_subO ⟨hs.at_, hs.fn⟩ hfi F hr (bind0 b v) hx ho ha hsl
theorem r_expXK (G : DOk X.prog X.w X.K X.mg X.base (L2.CX X.prog X.w) lv fA ps [] (spX (tbX X cls) n mX)) (hr : Room lv X.A) (hg : Gl X x) (hm : X.mg x = some (.ref fA)) (tk : Takes X (fun cl d _ H => E cl d H)) (ha : PA X (e :: es) (tAs (tbX X cls) B fr)) (hdb : (x == ("__debug__" : Str)) = false := by decide)
    (he : starEach (e :: es) X.env = (false, eval e X.env) :: starEach es X.env := by rfl) (hpl : (backTo p2 (starEach es X.env)).any (·.1) = false := by rfl) (hs : swapsWith (.Call (.Name x p) (e :: es) [] p2) none pos.line X.env = pure false := by rfl) :
    PS X (.Expr (.Call (.Name x p) (e :: es) [] p2) pos) (tS (tbX X cls) B (wEx cls E) (dExpX n mX fr)) := by
  obtain ⟨fd, dvv, F, b, v⟩ := G.ok
  exact r_expX F hr hg hm G.kp (bind0 b v) tk ha hdb he hpl hs
theorem r_setXK {tg : Expr} {g : ∀ {te : TE}, PE X (.Call (.Name x p) (e :: es) [] p2) te → PS X (.Assign [tg] (.Call (.Name x p) (e :: es) [] p2) pos) (tAsg te (gName i))} (G : DOk X.prog X.w X.K X.mg X.base (L2.CX X.prog X.w) lv fA ps [] (spX (tbX X cls) n mX)) (hr : Room lv X.A) (hg : Gl X x) (hm : X.mg x = some (.ref fA))
    (tk : Takes X (fun cl d _ H => E cl d H)) (ha : PA X (e :: es) (tAs (tbX X cls) B fr)) (hdb : (x == ("__debug__" : Str)) = false := by decide) (he : starEach (e :: es) X.env = (false, eval e X.env) :: starEach es X.env := by rfl) (hpl : (backTo p2 (starEach es X.env)).any (·.1) = false := by rfl) :
    PS X (.Assign [tg] (.Call (.Name x p) (e :: es) [] p2) pos) (tS (tbX X cls) B (wEx cls E) (dSetX i n mX fr)) := by
  obtain ⟨fd, dvv, F, b, v⟩ := G.ok
  exact r_setX (g := g) F hr hg hm G.kp (bind0 b v) tk ha hdb he hpl

/-! ### truth of ints; bool(i); i ** j; i in a tuple of ints; a global tuple -/
def dTruI (f : DP) : DT := fun env => match f env with
  | some (.int i) => some (i != 0)
  | _ => none
theorem r_tint (ha : PE X a (tD (tbX X cls) B fa)) (he : ∀ whole, isTrue a X.env whole = (do let v ← whole; standAt a.pos; holding [v] (truthy v)) := by intro _; rfl) : PT X a (tTt (tbX X cls) B (dTruI fa)) := weakT (pt_truth ha he) fun σ H Q ⟨F, env, d, r, e, k⟩ => by
  unfold dTruI at e
  split at e
  · rename_i i q
    cases e
    refine ⟨F, env, _, r, q, fun F1 H1 v g1 iv => ?_⟩
    simp only [Is] at iv
    subst iv
    exact ⟨_, rfl, k F1 H1 g1⟩
  · cases e
def gBool : D → Option D
  | .int i => some (.bl (i != 0))
  | .bl b => some (.bl b)
  | _ => none
theorem r_bool1 (hg : Gl X "bool") (hm : X.mg "bool" = none) (ha : PE X e (tP (tbX X cls) B f)) (he : starEach [e] X.env = [(false, eval e X.env)] := by rfl) (hpl : (backTo pos (starEach [] X.env)).any (·.1) = false := by rfl) :
    PE X (.Call (.Name "bool" p) [e] [] pos) (tD (tbX X cls) B (dMap gBool f)) := r_ty1 call_bool1 (fun F H v dx d Q s pk e k => by
      unfold gBool at e
      split at e
      · cases e
        have pk := pk_is pk fun _ _ z => z
        simp only [Is] at pk
        subst pk
        exact .inl ⟨_, rfl, k F H _ (Grow.refl s) (by simp only [Is])⟩
      · cases e
        have pk := pk_is pk fun _ _ z => z
        simp only [Is] at pk
        subst pk
        exact .inr ⟨_, rfl, k F H _ (Grow.refl s) (by simp only [Is])⟩
      · cases e) hg hm (by rfl) ha (by decide) (by decide) he hpl
instance : ∀ i j, Decidable (CPow i j) := fun i j => by unfold CPow; infer_instance
theorem r_pow (ha : PE X a (tD (tbX X cls) B fa)) (hb : PE X b (tD (tbX X cls) B fb)) : PE X (.BinOp a .Pow b pos) (tD (tbX X cls) B (dBin (gIc CPow fun i j => i ^ j.toNat) fa fb)) := r_bin op_pow sIc ha hb
def gInI (neg : Bool) : D → D → Option D
  | .int i, .tup xs => match intsD xs with
    | some is => some (.bl (xor neg (decide (i ∈ is))))
    | none => none
  | _, _ => none
theorem inV_ints (i : Int) : ∀ is : List Int, inV (.int i) (is.map V.int) = decide (i ∈ is)
  | [] => rfl
  | j :: is => by
    have ih := inV_ints i is
    unfold inV at ih ⊢
    rw [List.map_cons, List.any_cons, ih]
    have z : eqV (.int j) (.int i) = decide (i = j) := by
      show decide (j = i) = decide (i = j)
      exact decide_eq_decide.mpr eq_comm
    rw [z]
    by_cases h : i = j
    · simp [h]
    · simp [h]
theorem flat_ints : ∀ is : List Int, (is.map V.int).all flatV = true
  | [] => rfl
  | j :: is => by rw [List.map_cons, List.all_cons, flat_ints is]; rfl
theorem sInI {neg : Bool} : OpS (tbX X cls) (rIn X.K neg) (gInI neg) := fun F H x y dx dy d Q s ix iy e k => by
  unfold gInI at e
  split at e
  · rename_i i xs
    split at e
    · rename_i is q
      cases e
      simp only [Is] at ix iy
      obtain ⟨a, vs, rfl, h1, h2⟩ := iy
      obtain ⟨e1, _⟩ := intsD_is h2 q
      subst e1 ix
      refine ⟨a, _, rfl, .inr (sqT_mono s h1), rfl, flat_ints is, ?_⟩
      rw [inV_ints]
      refine k F H _ (Grow.refl s) ?_
      cases neg <;> simp [Is]
    · cases e
  · cases e
theorem r_niT (ha : PE X a (tD (tbX X cls) B fa)) (hb : PE X b (tD (tbX X cls) B fb)) (hm : behindInMarks .NotIn b = false := by rfl) : PT X (.Compare a [.NotIn] [b] pos) (tTt (tbX X cls) B (dB (dBin (gInI true) fa fb))) := r_tcmp op_notIn_seq sInI ha hb hm
theorem r_inT (ha : PE X a (tD (tbX X cls) B fa)) (hb : PE X b (tD (tbX X cls) B fb)) (hm : behindInMarks .In b = false := by rfl) : PT X (.Compare a [.In] [b] pos) (tTt (tbX X cls) B (dB (dBin (gInI false) fa fb))) := r_tcmp op_in_seq sInI ha hb hm
theorem isl_int {T : Tb} {F : Hp} : ∀ is : List Int, IsL T F (is.map V.int) (is.map D.int)
  | [] => IsL.nil
  | i :: is => IsL.cons (by simp only [Is]) (isl_int is)
/-- a global tuple of ints -/
theorem r_gtup {ad : Addr} {is : List Int} (hg : Gl X x) (hm : X.mg x = some (.ref ad)) (ht : ∀ H, SqT X.K H ad (is.map V.int)) (hd : (x == ("__debug__" : Str)) = false := by decide) : PE X (.Name x p) (tD (tbX X cls) B (dC (.tup (is.map .int)))) :=
  r_c (pe_glob hg hm (v := .ref ad) rfl hd) fun F => by
    simp only [Is]
    exact ⟨ad, _, rfl, ht F, isl_int is⟩
end

/-! ### defs by their bodies, with defaults -/
section
variable {P : Program} {w : World} {K : PySem.W.Frag} {mg : Str → Option Value} {base : Heap} {x qual : Str} {st : Stmt} {f : Addr} {fd : FuncData} {N ps : List Str} {k c : Nat} {cls : Nat → Addr} {s : DS}
theorem dok_D (F : ∃ fd, FunD K x qual (defArgs st) (defBody st) (defScope st) [] [] f fd) (S : FnScope N ps (defScope st))
    (hb : ∀ (kV doc pm : Value) (an : Option Addr) (cdv ct : Value) (us : List Value), us.length = ps.length → bindArgs (PySem.W.fnOf x qual (defArgs st) (defBody st) (defScope st) .none kV doc pm an cdv ct) ⟨us, []⟩ = pure (ps.zip us))
    (hbody : ∀ (cdv : Value) (A : Around) (outer : List Env) (s0 : Shared) (H : Hp) (E : XK) (B : Base), Room k (A.deeper (envOfC qual (defScope st) s0.heap.objs.size f cdv)) →
      PSs (cxOf CX0 P w K mg base N qual (defScope st) f cdv A outer s0 H E).nox (defBody st) (tS ⟨P, w, K, cls⟩ B W0 s)) :
    DOk P w K mg base CX0 (k + 1) f ps [] (spD ⟨P, w, K, cls⟩ ps.length (runD N.length s)) := by
  obtain ⟨fd, F⟩ := F
  have F1 := He5.fun_of F
  exact ⟨⟨fd, [], fn_ok F1 S hbody, F1.binds hb, .nil⟩, F1.kp⟩
theorem dok_X (F : ∃ fd, FunD K x qual (defArgs st) (defBody st) (defScope st) [] [] f fd) (S : FnScope N ps (defScope st))
    (hb : ∀ (kV doc pm : Value) (an : Option Addr) (cdv ct : Value) (us : List Value), us.length = ps.length → bindArgs (PySem.W.fnOf x qual (defArgs st) (defBody st) (defScope st) .none kV doc pm an cdv ct) ⟨us, []⟩ = pure (ps.zip us))
    (hbody : ∀ (cdv : Value) (A : Around) (outer : List Env) (s0 : Shared) (H : Hp) (E : XK) (B : Base), Room k (A.deeper (envOfC qual (defScope st) s0.heap.objs.size f cdv)) →
      PSs (cxOf (L2.CX P w) P w K mg base N qual (defScope st) f cdv A outer s0 H E) (defBody st) (tS ⟨P, w, K, cls⟩ B (wEx cls E) s)) :
    DOk P w K mg base (L2.CX P w) (k + 1) f ps [] (spX ⟨P, w, K, cls⟩ ps.length (runX N.length s)) := by
  obtain ⟨fd, F⟩ := F
  have F1 := He5.fun_of F
  exact ⟨⟨fd, [], fnX_ok F1 S hbody, F1.binds hb, .nil⟩, F1.kp⟩
theorem dok_I (F : ∃ fd, FunD K x qual (defArgs st) (defBody st) (defScope st) [] [] f fd) (S : FnScope N ps (defScope st)) (hps : 0 < ps.length)
    (hb : ∀ (kV doc pm : Value) (an : Option Addr) (cdv ct : Value) (us : List Value), us.length = ps.length → bindArgs (PySem.W.fnOf x qual (defArgs st) (defBody st) (defScope st) .none kV doc pm an cdv ct) ⟨us, []⟩ = pure (ps.zip us))
    (hbody : ∀ (cdv : Value) (A : Around) (outer : List Env) (s0 : Shared) (H : Hp) (E : XK) (B : Base), Room k (A.deeper (envOfC qual (defScope st) s0.heap.objs.size f cdv)) →
      PSs (cxOf CX0 P w K mg base N qual (defScope st) f cdv A outer s0 H E).nox (defBody st) (tS ⟨P, w, K, cls⟩ B W0 s)) :
    DOk P w K mg base CX0 (k + 1) f ps [] (spI ⟨P, w, K, cls⟩ c ps.length (runI c N.length s)) := by
  obtain ⟨fd, F⟩ := F
  have F1 := He5.fun_of F
  exact ⟨⟨fd, [], fnI_ok F S hps hbody, F1.binds hb, .nil⟩, F1.kp⟩
end
end Pd

/-! Pd: __init__ with a default; e is None; max of two ints. -/
namespace Pd
open PySem PySem.Spec PyProof.Rows L2

section
variable {P : Program} {w : World} {K : PySem.W.Frag} {mg : Str → Option Value} {base : Heap} {x qual : Str} {st : Stmt} {f : Addr} {fd : FuncData} {N ps : List Str} {k c : Nat} {cls : Nat → Addr} {s : DS} {dvs : List V}
/-- n arguments are written, the defaults behind the first j fill up -/
theorem dok_ID (n j : Nat) (F : ∃ fd, FunD K x qual (defArgs st) (defBody st) (defScope st) dvs [] f fd) (S : FnScope N ps (defScope st)) (hps : 0 < ps.length) (hd : dvs ≠ []) (hn : n + (dvs.length - j) = ps.length)
    (hb : ∀ (T : Addr) (kV doc pm : Value) (an : Option Addr) (cdv ct : Value) (us its : List Value), us.length = n → its.length = dvs.length →
      ∃ k, bindArgs (PySem.W.fnOf x qual (defArgs st) (defBody st) (defScope st) (.ref T) kV doc pm an cdv ct) ⟨us, []⟩ = seqItems? (.ref T) >>= k ∧ k (some its.toArray) = pure (ps.zip (us ++ its.drop j)))
    (hbody : ∀ (cdv : Value) (A : Around) (outer : List Env) (s0 : Shared) (H : Hp) (E : XK) (B : Base), Room k (A.deeper (envOfC qual (defScope st) s0.heap.objs.size f cdv)) →
      PSs (cxOf CX0 P w K mg base N qual (defScope st) f cdv A outer s0 H E).nox (defBody st) (tS ⟨P, w, K, cls⟩ B W0 s)) :
    DOk P w K mg base CX0 (k + 1) f ps (dvs.drop j) (spI ⟨P, w, K, cls⟩ c ps.length (runI c N.length s)) := by
  obtain ⟨fd, F⟩ := F
  obtain ⟨ds, v, b⟩ := F.binds1 n j hd hn hb
  exact ⟨⟨fd, ds, fnI_ok F S hps hbody, b, v⟩, F.kp⟩
end
section
variable {X : Cx} {cls : Nat → Addr} {B : Base} {e a b : Expr} {pos p : Pos} {f fa fb : DP} {fr : DPs}
def gIsN (neg : Bool) : D → D → Option D
  | .non, .non => some (.bl (!neg))
  | _, .non => some (.bl neg)
  | _, _ => none
theorem not_non {T : Tb} {F : Hp} {v : V} {d : D} (h : Is T F v d) (hd : ∀ z : d = .non, False) : decide (v = V.non) = false := by
  refine decide_eq_false fun z => ?_
  subst z
  cases d with
  | non => exact hd rfl
  | bl b => simp [Is] at h
  | int b => simp [Is] at h
  | str b => simp [Is] at h
  | tup b => simp only [Is] at h; obtain ⟨_, _, z, _⟩ := h; cases z
  | lst b => simp only [Is] at h; obtain ⟨_, _, z, _⟩ := h; cases z
  | dic b c => simp only [Is] at h; obtain ⟨_, _, z, _⟩ := h; cases z
  | dik b c => simp only [Is] at h; obtain ⟨_, _, z, _⟩ := h; cases z
  | obj b c d => simp only [Is] at h; obtain ⟨_, _, _, z, _⟩ := h; cases z
theorem c_is : CmpS X cls .Is (gIsN false) := ⟨_, op_isN, fun F H x y dx dy d Q s ix iy e k => by
  unfold gIsN at e
  split at e
  · cases e
    simp only [Is] at ix iy
    subst ix iy
    exact ⟨rfl, k F H _ (Grow.refl s) (by simp only [Is]; rfl)⟩
  · rename_i h
    cases e
    simp only [Is] at iy
    subst iy
    refine ⟨rfl, ?_⟩
    rw [not_non ix h]
    exact k F H _ (Grow.refl s) (by simp only [Is])
  · cases e⟩
/-- max(i, j) -/
def dMax2 (fr : DPs) : DP := fun env => match fr env with
  | some [.int i, .int j] => some (.int (if j > i then j else i))
  | _ => none
theorem r_max2 (calm : X.calm = true) (hg : Gl X "max") (hm : X.mg "max" = none) (ha : PA X [a, b] (tAs (tbX X cls) B fr)) (he : starEach [a, b] X.env = (false, eval a X.env) :: starEach [b] X.env := by rfl) (hpl : (backTo pos (starEach [b] X.env)).any (·.1) = false := by rfl) :
    PE X (.Call (.Name "max" p) [a, b] [] pos) (tD (tbX X cls) B (dMax2 fr)) := weakE (pe_callB (id := "max") (call_max2 calm) hg hm (by rfl) ha (he := he) (hpl := hpl)) fun σ H Q ⟨F, env, d, r, e, k⟩ => by
  unfold dMax2 at e
  split at e
  · rename_i i j q
    cases e
    refine ⟨F, env, _, r, q, fun F1 H1 vs g1 iv => ?_⟩
    obtain ⟨v, r', rfl, i1, i2⟩ := iv.cons_inv
    obtain ⟨w, r2, rfl, i3, i4⟩ := i2.cons_inv
    rw [i4.nil_inv]
    simp only [Is] at i1 i3
    subst i1 i3
    exact ⟨i, j, rfl, k F1 H1 _ g1 (by simp only [Is])⟩
  · cases e
/-! ### try, by DOk -/
variable {x : Str} {es : List Expr} {i n lv : Nat} {m : List D → Option Res} {fA : Addr} {ps : List Str} {p2 : Pos}
theorem r_tryK {ex nm : Str} {cT : Value} {hand : Nat → Option (List Bool)} {cs : List Value} {els : List Expr} {np hp rp lp tp : Pos} (G : DOk X.prog X.w X.K X.mg X.base (L2.CX X.prog X.w) lv fA ps [] (spX (tbX X cls) n m)) (hr : Room lv X.A) (hg : Gl X x) (hm : X.mg x = some (.ref fA))
    (hst : X.stack = X.env :: X.outer) (hf : X.env.frame = some X.env.locals) (hN : X.N.Nodup) (hi : X.N[i]? = some nm) (hln : X.env.kindOf nm = some .local) (hc : Names X ex cT)
    (hcatch : ∀ c bs, hand c = some bs → PySem.W.exmOne X.K (.ref (cls c)) cT = some true ∧ cs.map (PySem.W.kitOne X.K (.ref (cls c))) = bs.map some)
    (hel : ∀ (ad : Addr) (oe : Obj) (c : Nat) (pn : List (Addr × Obj)), (hand c).isSome = true → Zc (.ref (cls c)) none oe → (∃ vs, oe.data = .fields vs) → PA (X.suite ad ((ad, oe) :: pn)) els (tIsE X.K i ad (.ref (cls c)) cs))
    (ha : ∀ (pn : List (Addr × Obj)) (xe : Value → Shared → Prop), PA (X.tr pn xe) (e :: es) (tAs (tbX X cls) B fr)) (hne : els ≠ []) (hdb : (x == ("__debug__" : Str)) = false := by decide) (he : starEach (e :: es) X.env = (false, eval e X.env) :: starEach es X.env := by rfl) (hpl : (backTo p2 (starEach es X.env)).any (·.1) = false := by rfl)
    (hsw : swapsWith (.Call (.Name x p) (e :: es) [] p2) none pos.line X.env = pure false := by rfl) :
    PS X (.Try [.Expr (.Call (.Name x p) (e :: es) [] p2) pos] [.ExceptHandler (some (.Name ex np)) (some nm) [.Return (some (.List els lp)) rp] hp] [] [] tp) (tS (tbX X cls) B W0 (dTry i n m fr hand)) := by
  obtain ⟨fd, dvv, F, b, v⟩ := G.ok
  exact r_try F hr hg hm G.kp (bind0 b v) hst hf hN hi hln hc hcatch hel ha hdb he hpl hsw hne
end
end Pd

/-! k73: what each def does, over the data D (printed by ktgen.py). -/
namespace Pd73
open PySem PySem.Spec PyProof.Rows L2 Pd
def hand__law_refusal : Nat → Option (List Bool)
  | 2 => some [true, false, true]
  | 3 => some [false, true, true]
  | _ => none
def d_Ratio___init___1 : DS := (dSeq (dIf (dB (dBin (gEqA false) (dVar 2) (dC (.int 0)))) dNo dNext) (dSeq (dSet 3 (dGcd (dCons (dVar 1) (dCons (dVar 2) dNil)))) (dSeq (dIf (dB (dBin (gLt) (dVar 2) (dC (.int 0)))) (dSet 3 (dNeg (dVar 3))) dNext) (dSeq (dSelf 0 0 "num" (dBin (gIc CDivW fun i j => i / j) (dVar 1) (dVar 3))) (dSelf 0 0 "den" (dBin (gIc CDivW fun i j => i / j) (dVar 2) (dVar 3)))))))
def m_Ratio___init___1 : List D → Option D := runI 0 4 d_Ratio___init___1
def d_Ratio___init___2 : DS := (dSeq (dIf (dB (dBin (gEqA false) (dVar 2) (dC (.int 0)))) dNo dNext) (dSeq (dSet 3 (dGcd (dCons (dVar 1) (dCons (dVar 2) dNil)))) (dSeq (dIf (dB (dBin (gLt) (dVar 2) (dC (.int 0)))) (dSet 3 (dNeg (dVar 3))) dNext) (dSeq (dSelf 0 0 "num" (dBin (gIc CDivW fun i j => i / j) (dVar 1) (dVar 3))) (dSelf 0 0 "den" (dBin (gIc CDivW fun i j => i / j) (dVar 2) (dVar 3)))))))
def m_Ratio___init___2 : List D → Option D := runI 0 4 d_Ratio___init___2
def d_Ratio___add__ : DS := (dSeq (dIf (dNot (dB (dIsO 0 (dVar 1)))) dNo dNext) (dRet (dMake 3 m_Ratio___init___2 [] (dCons (dBin gAdd (dBin gMul (dFld 0 "num" (dVar 0)) (dFld 0 "den" (dVar 1))) (dBin gMul (dFld 0 "num" (dVar 1)) (dFld 0 "den" (dVar 0)))) (dCons (dBin gMul (dFld 0 "den" (dVar 0)) (dFld 0 "den" (dVar 1))) dNil)))))
def m_Ratio___add__ : List D → Option D := runD 2 d_Ratio___add__
def d_Ratio___sub__ : DS := (dSeq (dIf (dNot (dB (dIsO 0 (dVar 1)))) dNo dNext) (dRet (dMake 3 m_Ratio___init___2 [] (dCons (dBin (gI fun i j => i - j) (dBin gMul (dFld 0 "num" (dVar 0)) (dFld 0 "den" (dVar 1))) (dBin gMul (dFld 0 "num" (dVar 1)) (dFld 0 "den" (dVar 0)))) (dCons (dBin gMul (dFld 0 "den" (dVar 0)) (dFld 0 "den" (dVar 1))) dNil)))))
def m_Ratio___sub__ : List D → Option D := runD 2 d_Ratio___sub__
def d_Ratio___mul__ : DS := (dSeq (dIf (dNot (dB (dIsO 0 (dVar 1)))) dNo dNext) (dRet (dMake 3 m_Ratio___init___2 [] (dCons (dBin gMul (dFld 0 "num" (dVar 0)) (dFld 0 "num" (dVar 1))) (dCons (dBin gMul (dFld 0 "den" (dVar 0)) (dFld 0 "den" (dVar 1))) dNil)))))
def m_Ratio___mul__ : List D → Option D := runD 2 d_Ratio___mul__
def d_Ratio___neg__ : DS := (dRet (dMake 3 m_Ratio___init___2 [] (dCons (dNeg (dFld 0 "num" (dVar 0))) (dCons (dFld 0 "den" (dVar 0)) dNil))))
def m_Ratio___neg__ : List D → Option D := runD 1 d_Ratio___neg__
def d_Ratio___bool__ : DS := (dRet (dMap gBool (dFld 0 "num" (dVar 0))))
def m_Ratio___bool__ : List D → Option D := runD 1 d_Ratio___bool__
def d_check_size : DS := (dIf (dB (dBin (gInI true) (dVar 0) (dC (.tup [.int 1, .int 2, .int 3])))) (dRaise 2) dNext)
def m_check_size : List D → Option Res := runX 1 d_check_size
def d_least_rotation : DS := (dRet (dMinT false (dLc [1] (.nm 1) (dRg1 (dCons (dMap gLen (dVar 0)) dNil)) dYes (dBin gAdd (dSl (dVar 0) (dPt (dVar 1)) dNoP) (dSl (dVar 0) dNoP (dPt (dVar 1))))) (dC (.str ""))))
def m_least_rotation : List D → Option D := runD 2 d_least_rotation
def d_term_key : DS := (dRet (dTup (dCons (dMap gTuple (dSorted (dLc [2] (.nm 2) (dIt (dVar 0)) dYes (dCall 1 m_least_rotation [] (dCons (dVar 2) dNil))))) (dCons (dVar 1) dNil))))
def m_term_key : List D → Option D := runD 3 d_term_key
def d_content_of : DS := (dRet (dJoin (dC (.str "")) (dSorted (dBin gAdd (dJoin (dC (.str "")) (dBin gIx (dVar 0) (dC (.int 0)))) (dBin gIx (dVar 0) (dC (.int 1)))))))
def m_content_of : List D → Option D := runD 1 d_content_of
def d_Poly___init__ : DS := (dSeq (dSetO 3 (dC (.dic [] []))) (dSeq (dFor (.tp [4, 5, 6]) (dIt (dVar 2)) (dSeq (dIf (dAnd (dB (dBin (gEqA false) (dVar 1) (dC (.str "number")))) (dB (dBin (gEqA true) (dVar 5) (dC (.str ""))))) dNo dNext) (dSeq (dSet 7 (dCall 2 m_term_key [] (dCons (dVar 4) (dCons (dVar 5) dNil)))) (dDPut 3 (dVar 7) (dIfE (dB (dDIn false (dVar 7) (dPk 3))) (dBin (gOwn 0 m_Ratio___add__) (dDGet (dPk 3) (dVar 7)) (dVar 6)) (dVar 6)))))) (dSeq (dSelf 0 1 "kind" (dVar 1)) (dSeq (dSelf 0 1 "coefficients" (dDc [7] (.nm 7) (dIt (dSorted (dPk 3))) (dTruO 0 m_Ratio___bool__ (dDGet (dPk 3) (dVar 7))) (dVar 7) (dDGet (dPk 3) (dVar 7)))) (dSelf 0 1 "terms" (dMap gTupleD (dFld 1 "coefficients" (dPk 0))))))))
def m_Poly___init__ : List D → Option D := runI 1 8 d_Poly___init__
def d_poly_of : DS := (dSeq (dSetO 2 (dMake 3 m_Poly___init__ [] (dCons (dVar 0) (dCons (dLst dNil) dNil)))) (dSeq (dSelf 2 1 "coefficients" (dDc [3] (.nm 3) (dIt (dSorted (dVar 1))) (dTruO 0 m_Ratio___bool__ (dDGet (dVar 1) (dVar 3))) (dVar 3) (dDGet (dVar 1) (dVar 3)))) (dSeq (dSelf 2 1 "terms" (dMap gTupleD (dFld 1 "coefficients" (dPk 2)))) (dFrz 2 (dRet (dVar 2))))))
def m_poly_of : List D → Option D := runD 4 d_poly_of
def d_same_kind : DS := (dIf (dB (dBin (gEqA true) (dFld 1 "kind" (dVar 0)) (dFld 1 "kind" (dVar 1)))) dNo dNext)
def m_same_kind : List D → Option D := runD 2 d_same_kind
def d_Poly_constant : DS := (dRet (dMake 3 m_Poly___init__ [] (dCons (dVar 0) (dCons (dLst (dCons (dTup (dCons (dLst dNil) (dCons (dC (.str "")) (dCons (dVar 1) dNil)))) dNil)) dNil))))
def m_Poly_constant : List D → Option D := runD 2 d_Poly_constant
def d_Poly_degree : DS := (dRet (dMinT true (dLc [1] (.nm 1) (dIt (dFld 1 "terms" (dVar 0))) dYes (dMap gLen (dCall 1 m_content_of [] (dCons (dVar 1) dNil)))) (dC (.int 0))))
def m_Poly_degree : List D → Option D := runD 2 d_Poly_degree
def d_Poly___add__ : DS := (dSeq (dIf (dNot (dB (dIsO 1 (dVar 1)))) dNo dNext) (dSeq (dDrop (dCall 2 m_same_kind [] (dCons (dVar 0) (dCons (dVar 1) dNil)))) (dSeq (dSetO 2 (dDc [3] (.nm 3) (dIt (dFld 1 "terms" (dVar 0))) dYes (dVar 3) (dDGet (dFld 1 "coefficients" (dVar 0)) (dVar 3)))) (dSeq (dFor (.nm 3) (dIt (dFld 1 "terms" (dVar 1))) (dSeq (dSet 4 (dDGet (dFld 1 "coefficients" (dVar 1)) (dVar 3))) (dDPut 2 (dVar 3) (dIfE (dB (dDIn false (dVar 3) (dPk 2))) (dBin (gOwn 0 m_Ratio___add__) (dDGet (dPk 2) (dVar 3)) (dVar 4)) (dVar 4))))) (dFrz 2 (dRet (dCall 2 m_poly_of [] (dCons (dFld 1 "kind" (dVar 0)) (dCons (dVar 2) dNil)))))))))
def m_Poly___add__ : List D → Option D := runD 5 d_Poly___add__
def d_Poly_scaled : DS := (dRet (dCall 2 m_poly_of [] (dCons (dFld 1 "kind" (dVar 0)) (dCons (dDc [2] (.nm 2) (dIt (dFld 1 "terms" (dVar 0))) dYes (dVar 2) (dBin (gOwn 0 m_Ratio___mul__) (dVar 1) (dDGet (dFld 1 "coefficients" (dVar 0)) (dVar 2)))) dNil))))
def m_Poly_scaled : List D → Option D := runD 3 d_Poly_scaled
def d_Poly___neg__ : DS := (dRet (dMeth 1 "scaled" 2 m_Poly_scaled [] (dVar 0) (dCons (dMake 3 m_Ratio___init___1 [.int 1] (dCons (dNeg (dC (.int 1))) dNil)) dNil)))
def m_Poly___neg__ : List D → Option D := runD 1 d_Poly___neg__
def d_Poly___sub__ : DS := (dSeq (dIf (dNot (dB (dIsO 1 (dVar 1)))) dNo dNext) (dRet (dBin (gOwn 1 m_Poly___add__) (dVar 0) (dNegO 1 m_Poly___neg__ (dVar 1)))))
def m_Poly___sub__ : List D → Option D := runD 2 d_Poly___sub__
def d_Poly___mul__ : DS := (dSeq (dIf (dNot (dB (dIsO 1 (dVar 1)))) dNo dNext) (dSeq (dSetO 2 (dC (.dic [] []))) (dSeq (dFor (.nm 3) (dIt (dFld 1 "terms" (dVar 0))) (dFor (.nm 4) (dIt (dFld 1 "terms" (dVar 1))) (dSeq (dSet 5 (dTup (dCons (dMap gTuple (dSorted (dBin gAdd (dBin gIx (dVar 3) (dC (.int 0))) (dBin gIx (dVar 4) (dC (.int 0)))))) (dCons (dBin gAdd (dBin gIx (dVar 3) (dC (.int 1))) (dBin gIx (dVar 4) (dC (.int 1)))) dNil)))) (dSeq (dSet 6 (dBin (gOwn 0 m_Ratio___mul__) (dDGet (dFld 1 "coefficients" (dVar 0)) (dVar 3)) (dDGet (dFld 1 "coefficients" (dVar 1)) (dVar 4)))) (dDPut 2 (dVar 5) (dIfE (dB (dDIn false (dVar 5) (dPk 2))) (dBin (gOwn 0 m_Ratio___add__) (dDGet (dPk 2) (dVar 5)) (dVar 6)) (dVar 6))))))) (dSeq (dIf (dB (dBin (gEqA false) (dFld 1 "kind" (dVar 0)) (dC (.str "number")))) (dFrz 2 (dRet (dCall 2 m_poly_of [] (dCons (dFld 1 "kind" (dVar 1)) (dCons (dVar 2) dNil))))) dNext) (dFrz 2 (dRet (dCall 2 m_poly_of [] (dCons (dC (.str "matrix")) (dCons (dVar 2) dNil)))))))))
def m_Poly___mul__ : List D → Option D := runD 7 d_Poly___mul__
def d_Poly___len__ : DS := (dRet (dMap gLen (dFld 1 "terms" (dVar 0))))
def m_Poly___len__ : List D → Option D := runD 1 d_Poly___len__
def d_Poly___getitem__ : DS := (dRet (dDGetOr (dFld 1 "coefficients" (dVar 0)) (dVar 1) (dMake 3 m_Ratio___init___1 [.int 1] (dCons (dC (.int 0)) dNil))))
def m_Poly___getitem__ : List D → Option D := runD 2 d_Poly___getitem__
def d_Poly_used_letters : DS := (dRet (dJoin (dC (.str "")) (dSortSet (dJoin (dC (.str "")) (dLc [1] (.nm 1) (dIt (dFld 1 "terms" (dVar 0))) dYes (dCall 1 m_content_of [] (dCons (dVar 1) dNil)))))))
def m_Poly_used_letters : List D → Option D := runD 2 d_Poly_used_letters
def d_power_trace : DS := (dRet (dMake 3 m_Poly___init__ [] (dCons (dC (.str "number")) (dCons (dLst (dCons (dTup (dCons (dTup (dCons (dBin gMul (dVar 0) (dVar 1)) dNil)) (dCons (dC (.str "")) (dCons (dMake 3 m_Ratio___init___1 [.int 1] (dCons (dC (.int 1)) dNil)) dNil)))) dNil)) dNil))))
def m_power_trace : List D → Option D := runD 2 d_power_trace
def d_letter_power : DS := (dRet (dMake 3 m_Poly___init__ [] (dCons (dC (.str "matrix")) (dCons (dLst (dCons (dTup (dCons (dTup dNil) (dCons (dBin gMul (dVar 0) (dVar 1)) (dCons (dMake 3 m_Ratio___init___1 [.int 1] (dCons (dC (.int 1)) dNil)) dNil)))) dNil)) dNil))))
def m_letter_power : List D → Option D := runD 2 d_letter_power
def d_elementary : DS := (dSeq (dSetO 2 (dLst (dCons (dCall 2 m_Poly_constant [] (dCons (dC (.str "number")) (dCons (dMake 3 m_Ratio___init___1 [.int 1] (dCons (dC (.int 1)) dNil)) dNil))) dNil))) (dSeq (dFor (.nm 3) (dRg2 (dCons (dC (.int 1)) (dCons (dBin gAdd (dVar 0) (dC (.int 1))) dNil))) (dSeq (dSet 4 (dMake 3 m_Poly___init__ [] (dCons (dC (.str "number")) (dCons (dLst dNil) dNil)))) (dSeq (dFor (.nm 5) (dRg2 (dCons (dC (.int 1)) (dCons (dBin gAdd (dVar 3) (dC (.int 1))) dNil))) (dSeq (dSet 6 (dBin (gOwn 1 m_Poly___mul__) (dIxO 2 (dBin (gI fun i j => i - j) (dVar 3) (dVar 5))) (dCall 2 m_power_trace [] (dCons (dVar 1) (dCons (dVar 5) dNil))))) (dSet 4 (dIfE (dTruI (dBin (gI Builtin.bitAnd) (dVar 5) (dC (.int 1)))) (dBin (gOwn 1 m_Poly___add__) (dVar 4) (dVar 6)) (dBin (gOwn 1 m_Poly___sub__) (dVar 4) (dVar 6)))))) (dApp 2 (dMeth 1 "scaled" 2 m_Poly_scaled [] (dVar 4) (dCons (dMake 3 m_Ratio___init___2 [] (dCons (dC (.int 1)) (dCons (dVar 3) dNil))) dNil)))))) (dRet (dIxO 2 (dNeg (dC (.int 1)))))))
def m_elementary : List D → Option D := runD 7 d_elementary
def d_only_letter : DS := (dSeq (dSet 1 (dMeth 1 "used_letters" 1 m_Poly_used_letters [] (dVar 0) dNil)) (dSeq (dIf (dB (dBin (gIB fun i j => decide (j < i)) (dMap gLen (dVar 1)) (dC (.int 1)))) (dRaise 3) dNext) (dRet (dVar 1))))
def m_only_letter : List D → Option Res := runX 2 d_only_letter
def d_continued : DS := (dSeq (dSetO 3 (dMap gList (dVar 0))) (dSeq (dWhile 1000 (dB (dBin (gLt) (dMap gLen (dPk 3)) (dVar 2))) (dSeq (dSet 4 (dBin (gOwn 1 m_Poly___mul__) (dBin gIx (dVar 1) (dC (.int 0))) (dIxO 3 (dNeg (dC (.int 1)))))) (dSeq (dFor (.nm 5) (dRg2 (dCons (dC (.int 1)) (dCons (dMap gLen (dVar 1)) dNil))) (dSet 4 (dBin (gOwn 1 m_Poly___add__) (dVar 4) (dBin (gOwn 1 m_Poly___mul__) (dBin gIx (dVar 1) (dVar 5)) (dIxO 3 (dBin (gI fun i j => i - j) (dNeg (dC (.int 1))) (dVar 5))))))) (dApp 3 (dVar 4))))) (dFrz 3 (dRet (dVar 3)))))
def m_continued : List D → Option D := runD 6 d_continued
def d_reduce_one : DS := (dSeq (dExpX 1 m_check_size (dCons (dVar 0) dNil)) (dSeq (dSetX 2 1 m_only_letter (dCons (dVar 1) dNil)) (dSeq (dIf (dB (dBin (gEqA false) (dVar 2) (dC (.str "")))) (dRet (dVar 1)) dNext) (dSeq (dSetO 3 (dLc [9] (.nm 9) (dRg2 (dCons (dC (.int 1)) (dCons (dBin gAdd (dVar 0) (dC (.int 1))) dNil))) dYes (dMeth 1 "scaled" 2 m_Poly_scaled [] (dCall 2 m_elementary [] (dCons (dVar 9) (dCons (dVar 2) dNil))) (dCons (dMake 3 m_Ratio___init___1 [.int 1] (dCons (dIfE (dTruI (dBin (gI Builtin.bitAnd) (dVar 9) (dC (.int 1)))) (dC (.int 1)) (dNeg (dC (.int 1)))) dNil)) dNil)))) (dSeq (dFrz 3 (dSet 4 (dCall 3 m_continued [] (dCons (dLc [9] (.nm 9) (dRg2 (dCons (dC (.int 1)) (dCons (dBin gAdd (dVar 0) (dC (.int 1))) dNil))) dYes (dCall 2 m_power_trace [] (dCons (dVar 2) (dCons (dVar 9) dNil)))) (dCons (dVar 3) (dCons (dProp 1 m_Poly_degree (dVar 1)) dNil)))))) (dSeq (dSet 5 (dLst (dCons (dCall 2 m_Poly_constant [] (dCons (dC (.str "number")) (dCons (dMake 3 m_Ratio___init___1 [.int 1] (dCons (dC (.int 1)) dNil)) dNil))) dNil))) (dSeq (dIf (dB (dBin (gEqA false) (dFld 1 "kind" (dVar 1)) (dC (.str "matrix")))) (dSet 5 (dCall 3 m_continued [] (dCons (dLc [9] (.nm 9) (dRg1 (dCons (dVar 0) dNil)) dYes (dCall 2 m_letter_power [] (dCons (dVar 2) (dCons (dVar 9) dNil)))) (dCons (dVar 3) (dCons (dBin gAdd (dProp 1 m_Poly_degree (dVar 1)) (dC (.int 1))) dNil))))) dNext) (dSeq (dSet 6 (dMake 3 m_Poly___init__ [] (dCons (dFld 1 "kind" (dVar 1)) (dCons (dLst dNil) dNil)))) (dSeq (dFor (.tp [7, 8]) (dIt (dFld 1 "terms" (dVar 1))) (dSeq (dSet 10 (dBin gIx (dVar 5) (dMap gLen (dVar 8)))) (dSeq (dFor (.nm 11) (dIt (dVar 7)) (dSet 10 (dBin (gOwn 1 m_Poly___mul__) (dBin gIx (dVar 4) (dBin (gI fun i j => i - j) (dMap gLen (dVar 11)) (dC (.int 1)))) (dVar 10)))) (dSet 6 (dBin (gOwn 1 m_Poly___add__) (dVar 6) (dMeth 1 "scaled" 2 m_Poly_scaled [] (dVar 10) (dCons (dSubO 1 m_Poly___getitem__ (dVar 1) (dTup (dCons (dVar 7) (dCons (dVar 8) dNil)))) dNil))))))) (dRet (dVar 6)))))))))))
def m_reduce_one : List D → Option Res := runX 12 d_reduce_one
def d__law_cell : DS := (dSeq (dIf (dB (dBin (gLt) (dVar 1) (dMap gLen (dVar 0)))) (dRet (dBin gIx (dVar 0) (dVar 1))) dNext) (dRet (dBin gAdd (dBin gAdd (dBin gMul (dC (.int 17)) (dVar 1)) (dBin gMul (dC (.int 3)) (dMap gLen (dVar 0)))) (dC (.int 1)))))
def m__law_cell : List D → Option D := runD 2 d__law_cell
def d__law_number : DS := (dSeq (dSet 2 (dMap gAbs (dCall 2 m__law_cell [] (dCons (dVar 0) (dCons (dVar 1) dNil))))) (dSeq (dIf (dB (dBin (gLt) (dVar 2) (dBin (gIc CPow fun i j => i ^ j.toNat) (dC (.int 10)) (dC (.int 18))))) (dSeq (dSet 2 (dBin gAdd (dBin gMul (dBin gAdd (dVar 2) (dC (.int 5))) (dBin gAdd (dVar 2) (dC (.int 48271)))) (dBin gMul (dC (.int 69621)) (dVar 1)))) (dSet 2 (dBin gAdd (dBin gMul (dVar 2) (dBin gAdd (dBin (gIc (fun _ j => 0 < j) fun i j => i % j) (dMap gInt (dVar 2)) (dC (.int 65537))) (dC (.int 11)))) (dBin (gIc CDivW fun i j => i / j) (dVar 2) (dC (.int 7)))))) dNext) (dRet (dVar 2))))
def m__law_number : List D → Option D := runD 3 d__law_number
def d__law_menu : DS := (dSeq (dSet 1 (dC (.str "abcdefghijklmnopqrstuvwxyz"))) (dSeq (dSet 2 (dBin (gIc (fun _ j => 0 < j) fun i j => i % j) (dMap gInt (dVar 0)) (dC (.int 26)))) (dSeq (dSet 3 (dBin gIx (dLst (dCons (dC (.int 1)) (dCons (dC (.int 3)) (dCons (dC (.int 5)) (dCons (dC (.int 7)) (dCons (dC (.int 9)) (dCons (dC (.int 11)) (dCons (dC (.int 15)) (dCons (dC (.int 17)) (dCons (dC (.int 19)) (dCons (dC (.int 21)) (dCons (dC (.int 23)) (dCons (dC (.int 25)) dNil))))))))))))) (dBin (gIc (fun _ j => 0 < j) fun i j => i % j) (dMap gInt (dBin (gIc CDivW fun i j => i / j) (dVar 0) (dC (.int 26)))) (dC (.int 12))))) (dRet (dJoin (dC (.str "")) (dLc [4] (.nm 4) (dRg1 (dCons (dC (.int 6)) dNil)) dYes (dBin gIx (dVar 1) (dBin (gIc (fun _ j => 0 < j) fun i j => i % j) (dMap gInt (dBin gAdd (dVar 2) (dBin gMul (dVar 3) (dVar 4)))) (dC (.int 26))))))))))
def m__law_menu : List D → Option D := runD 5 d__law_menu
def d__law_matrix : DS := (dSeq (dSetO 3 (dLst dNil)) (dSeq (dFor (.nm 4) (dRg1 (dCons (dVar 1) dNil)) (dSeq (dSetO 5 (dLst dNil)) (dSeq (dFor (.nm 6) (dRg1 (dCons (dVar 1) dNil)) (dSeq (dApp 5 (dBin (gI fun i j => i - j) (dBin (gIc (fun _ j => 0 < j) fun i j => i % j) (dMap gInt (dVar 0)) (dBin gAdd (dBin gMul (dC (.int 2)) (dVar 2)) (dC (.int 1)))) (dVar 2))) (dSet 0 (dBin (gIc CDivW fun i j => i / j) (dVar 0) (dBin gAdd (dBin gMul (dC (.int 2)) (dVar 2)) (dC (.int 1))))))) (dFrz 5 (dApp 3 (dVar 5)))))) (dFrz 3 (dRet (dVar 3)))))
def m__law_matrix : List D → Option D := runD 7 d__law_matrix
def d__law_times : DS := (dSeq (dSetO 2 (dLst dNil)) (dSeq (dFor (.nm 3) (dIt (dVar 0)) (dApp 2 (dLc [4] (.nm 4) (dRg1 (dCons (dMap gLen (dVar 1)) dNil)) dYes (dMap gSum (dLc [5] (.nm 5) (dRg1 (dCons (dMap gLen (dVar 1)) dNil)) dYes (dBin gMul (dBin gIx (dVar 3) (dVar 5)) (dBin gIx (dBin gIx (dVar 1) (dVar 5)) (dVar 4)))))))) (dFrz 2 (dRet (dVar 2)))))
def m__law_times : List D → Option D := runD 6 d__law_times
def d__law_one : DS := (dRet (dLc [1] (.nm 1) (dRg1 (dCons (dVar 0) dNil)) dYes (dLc [2] (.nm 2) (dRg1 (dCons (dVar 0) dNil)) dYes (dMap gInt (dBin (gEqA false) (dVar 1) (dVar 2))))))
def m__law_one : List D → Option D := runD 3 d__law_one
def d__law_in_one : DS := (dSeq (dSetO 4 (dLst (dCons (dCall 1 m__law_one [] (dCons (dVar 2) dNil)) dNil))) (dSeq (dFor (.nm 5) (dRg1 (dCons (dC (.int 20)) dNil)) (dApp 4 (dCall 2 m__law_times [] (dCons (dIxO 4 (dVar 5)) (dCons (dVar 3) dNil))))) (dSeq (dFrz 4 (dSetO 6 (dLc [12] (.nm 12) (dIt (dVar 4)) dYes (dMap gSum (dLc [5] (.nm 5) (dRg1 (dCons (dVar 2) dNil)) dYes (dBin gIx (dBin gIx (dVar 12) (dVar 5)) (dVar 5))))))) (dSeq (dSet 7 (dC (.int 0))) (dSeq (dSet 8 (dLc [5] (.nm 5) (dRg1 (dCons (dVar 2) dNil)) dYes (dLc [15] (.nm 15) (dRg1 (dCons (dVar 2) dNil)) dYes (dC (.int 0))))) (dSeq (dFor (.tp [9, 10, 11]) (dIt (dVar 0)) (dSeq (dFor (.nm 13) (dIt (dVar 9)) (dSet 11 (dBin gMul (dVar 11) (dIxO 6 (dMap gLen (dVar 13)))))) (dSeq (dSet 7 (dBin gAdd (dVar 7) (dVar 11))) (dSeq (dSet 14 (dIxO 4 (dMap gLen (dVar 10)))) (dSet 8 (dLc [5] (.nm 5) (dRg1 (dCons (dVar 2) dNil)) dYes (dLc [15] (.nm 15) (dRg1 (dCons (dVar 2) dNil)) dYes (dBin gAdd (dBin gIx (dBin gIx (dVar 8) (dVar 5)) (dVar 15)) (dBin gMul (dVar 11) (dBin gIx (dBin gIx (dVar 14) (dVar 5)) (dVar 15))))))))))) (dSeq (dIf (dB (dBin (gEqA false) (dVar 1) (dC (.str "matrix")))) (dRet (dVar 8)) dNext) (dRet (dVar 7)))))))))
def m__law_in_one : List D → Option D := runD 16 d__law_in_one
def d__law_poly : DS := (dRet (dMake 3 m_Poly___init__ [] (dCons (dVar 0) (dCons (dLc [3, 4, 5] (.tp [3, 4, 5]) (dIt (dVar 1)) dYes (dTup (dCons (dMap gList (dVar 3)) (dCons (dVar 4) (dCons (dMake 3 m_Ratio___init___2 [] (dCons (dVar 5) (dCons (dVar 2) dNil))) dNil))))) dNil))))
def m__law_poly : List D → Option D := runD 6 d__law_poly
def d__law_same_number : DS := (dSeq (dIf (dOr (dNot (dB (dIsO 0 (dVar 0)))) (dOr (dNot (dB (dIsI true (dFld 0 "num" (dVar 0))))) (dB (dIsI false (dFld 0 "num" (dVar 0)))))) (dRet (dC (.bl false))) dNext) (dRet (dAndV (dBin (gIB fun i j => decide (j < i)) (dFld 0 "den" (dVar 0)) (dC (.int 0))) (dBin (gEqA false) (dBin gMul (dFld 0 "num" (dVar 0)) (dVar 2)) (dBin gMul (dVar 1) (dFld 0 "den" (dVar 0)))))))
def m__law_same_number : List D → Option D := runD 3 d__law_same_number
def d__law_key : DS := (dSeq (dSetO 2 (dLst dNil)) (dSeq (dFor (.nm 3) (dIt (dVar 0)) (dSeq (dSet 4 (dVar 3)) (dSeq (dFor (.nm 5) (dRg1 (dCons (dMap gLen (dVar 3)) dNil)) (dIf (dB (dBin (gLt) (dBin gAdd (dSl (dVar 3) (dPt (dVar 5)) dNoP) (dSl (dVar 3) dNoP (dPt (dVar 5)))) (dVar 4))) (dSet 4 (dBin gAdd (dSl (dVar 3) (dPt (dVar 5)) dNoP) (dSl (dVar 3) dNoP (dPt (dVar 5))))) dNext)) (dApp 2 (dVar 4))))) (dRet (dTup (dCons (dMap gTuple (dSorted (dPk 2))) (dCons (dVar 1) dNil))))))
def m__law_key : List D → Option D := runD 6 d__law_key
def d__law_rows : DS := (dSeq (dSetO 1 (dC (.dic [] []))) (dSeq (dFor (.tp [2, 3, 4]) (dIt (dVar 0)) (dSeq (dSet 5 (dCall 2 m__law_key [] (dCons (dVar 2) (dCons (dVar 3) dNil)))) (dDPut 1 (dVar 5) (dBin gAdd (dDGetOr (dPk 1) (dVar 5) (dC (.int 0))) (dVar 4))))) (dRet (dLc [5] (.nm 5) (dIt (dSorted (dPk 1))) (dB (dBin (gEqA true) (dDGet (dPk 1) (dVar 5)) (dC (.int 0)))) (dLst (dCons (dVar 5) (dCons (dDGet (dPk 1) (dVar 5)) dNil)))))))
def m__law_rows : List D → Option D := runD 6 d__law_rows
def d__law_same_poly : DS := (dSeq (dIf (dOr (dNot (dB (dIsO 1 (dVar 0)))) (dOr (dB (dBin (gEqA true) (dFld 1 "kind" (dVar 0)) (dVar 1))) (dB (dBin (gEqA true) (dMap gList (dFld 1 "terms" (dVar 0))) (dLc [4] (.nm 4) (dIt (dVar 2)) dYes (dBin gIx (dVar 4) (dC (.int 0)))))))) (dRet (dC (.bl false))) dNext) (dRet (dBin (gEqA false) (dMap gLen (dLc [4] (.nm 4) (dIt (dVar 2)) (dNot (dB (dCall 3 m__law_same_number [] (dCons (dSubO 1 m_Poly___getitem__ (dVar 0) (dBin gIx (dVar 4) (dC (.int 0)))) (dCons (dBin gIx (dVar 4) (dC (.int 1))) (dCons (dVar 3) dNil)))))) (dVar 4))) (dC (.int 0)))))
def m__law_same_poly : List D → Option D := runD 5 d__law_same_poly
def d__law_joined : DS := (dSeq (dSetO 2 (dLst dNil)) (dSeq (dFor (.tp [3, 4, 5]) (dIt (dVar 0)) (dFor (.tp [6, 7, 8]) (dIt (dVar 1)) (dApp 2 (dTup (dCons (dBin gAdd (dVar 3) (dVar 6)) (dCons (dBin gAdd (dVar 4) (dVar 7)) (dCons (dBin gMul (dVar 5) (dVar 8)) dNil))))))) (dFrz 2 (dRet (dVar 2)))))
def m__law_joined : List D → Option D := runD 9 d__law_joined
def d__law_closed : DS := (dSeq (dSetO 2 (dLst dNil)) (dSeq (dFor (.tp [3, 4, 5]) (dIt (dVar 0)) (dIf (dB (dBin (gEqA false) (dVar 4) (dC (.str "")))) (dApp 2 (dTup (dCons (dVar 3) (dCons (dC (.str "")) (dCons (dBin gMul (dVar 5) (dVar 1)) dNil))))) (dApp 2 (dTup (dCons (dBin gAdd (dVar 3) (dLst (dCons (dVar 4) dNil))) (dCons (dC (.str "")) (dCons (dVar 5) dNil))))))) (dFrz 2 (dRet (dVar 2)))))
def m__law_closed : List D → Option D := runD 6 d__law_closed
def d__law_cut : DS := (dSeq (dSet 4 (dC (.str ""))) (dSeq (dIf (dB (dBin (gEqA false) (dVar 3) (dC (.str "matrix")))) (dSeq (dSet 4 (dBin gMul (dVar 2) (dBin (gIc (fun _ j => 0 < j) fun i j => i % j) (dMap gInt (dVar 0)) (dBin gAdd (dVar 1) (dC (.int 1)))))) (dSet 0 (dBin (gIc CDivW fun i j => i / j) (dVar 0) (dBin gAdd (dVar 1) (dC (.int 1)))))) dNext) (dSeq (dSet 5 (dBin (gI fun i j => i - j) (dVar 1) (dMap gLen (dVar 4)))) (dSeq (dSetO 6 (dLst dNil)) (dSeq (dFor (.nm 7) (dRg1 (dCons (dVar 1) dNil)) (dSeq (dIf (dB (dBin (gEqA false) (dVar 5) (dC (.int 0)))) dBreak dNext) (dSeq (dSet 8 (dBin gAdd (dC (.int 1)) (dBin (gIc (fun _ j => 0 < j) fun i j => i % j) (dMap gInt (dVar 0)) (dVar 5)))) (dSeq (dSet 0 (dBin (gIc CDivW fun i j => i / j) (dVar 0) (dVar 5))) (dSeq (dApp 6 (dBin gMul (dVar 2) (dVar 8))) (dSet 5 (dBin (gI fun i j => i - j) (dVar 5) (dVar 8)))))))) (dFrz 6 (dRet (dTup (dCons (dVar 6) (dCons (dVar 4) dNil))))))))))
def m__law_cut : List D → Option D := runD 9 d__law_cut
def d__law_powers : DS := (dSeq (dSetO 6 (dLst dNil)) (dSeq (dFor (.nm 7) (dRg1 (dCons (dVar 2) dNil)) (dSeq (dSet 8 (dCall 2 m__law_number [] (dCons (dVar 0) (dCons (dBin gAdd (dVar 1) (dVar 7)) dNil)))) (dSeq (dSet 9 (dBin gIx (dVar 3) (dBin (gIc (fun _ j => 0 < j) fun i j => i % j) (dMap gInt (dBin (gIc CDivW fun i j => i / j) (dVar 8) (dC (.int 13)))) (dMap gLen (dVar 3))))) (dSeq (dSet 10 (dCall 4 m__law_cut [] (dCons (dBin (gIc CDivW fun i j => i / j) (dVar 8) (dBin gMul (dC (.int 13)) (dMap gLen (dVar 3)))) (dCons (dVar 9) (dCons (dVar 4) (dCons (dVar 5) dNil)))))) (dApp 6 (dTup (dCons (dBin gIx (dVar 10) (dC (.int 0))) (dCons (dBin gIx (dVar 10) (dC (.int 1))) (dCons (dBin (gI fun i j => i - j) (dBin (gIc (fun _ j => 0 < j) fun i j => i % j) (dMap gInt (dVar 8)) (dC (.int 13))) (dC (.int 6))) dNil))))))))) (dFrz 6 (dRet (dVar 6)))))
def m__law_powers : List D → Option D := runD 11 d__law_powers
def d__law_newton : DS := (dSeq (dIf (dB (dBin (gEqA false) (dVar 0) (dC (.int 1)))) (dRet (dLst (dCons (dTup (dCons (dLst dNil) (dCons (dVar 1) (dCons (dC (.int 6)) dNil)))) (dCons (dTup (dCons (dLst (dCons (dVar 1) dNil)) (dCons (dC (.str "")) (dCons (dNeg (dC (.int 6))) dNil)))) dNil)))) dNext) (dSeq (dSet 2 (dBin gAdd (dVar 1) (dVar 1))) (dSeq (dIf (dB (dBin (gEqA false) (dVar 0) (dC (.int 2)))) (dRet (dLst (dCons (dTup (dCons (dLst dNil) (dCons (dVar 2) (dCons (dC (.int 6)) dNil)))) (dCons (dTup (dCons (dLst (dCons (dVar 1) dNil)) (dCons (dVar 1) (dCons (dNeg (dC (.int 6))) dNil)))) (dCons (dTup (dCons (dLst (dCons (dVar 1) (dCons (dVar 1) dNil))) (dCons (dC (.str "")) (dCons (dC (.int 3)) dNil)))) (dCons (dTup (dCons (dLst (dCons (dVar 2) dNil)) (dCons (dC (.str "")) (dCons (dNeg (dC (.int 3))) dNil)))) dNil)))))) dNext) (dSeq (dSet 3 (dLst (dCons (dTup (dCons (dLst dNil) (dCons (dBin gAdd (dVar 2) (dVar 1)) (dCons (dC (.int 6)) dNil)))) (dCons (dTup (dCons (dLst (dCons (dVar 1) dNil)) (dCons (dVar 2) (dCons (dNeg (dC (.int 6))) dNil)))) (dCons (dTup (dCons (dLst (dCons (dVar 1) (dCons (dVar 1) dNil))) (dCons (dVar 1) (dCons (dC (.int 3)) dNil)))) (dCons (dTup (dCons (dLst (dCons (dVar 2) dNil)) (dCons (dVar 1) (dCons (dNeg (dC (.int 3))) dNil)))) dNil)))))) (dRet (dBin gAdd (dVar 3) (dLst (dCons (dTup (dCons (dLst (dCons (dVar 1) (dCons (dVar 1) (dCons (dVar 1) dNil)))) (dCons (dC (.str "")) (dCons (dNeg (dC (.int 1))) dNil)))) (dCons (dTup (dCons (dLst (dCons (dVar 1) (dCons (dVar 2) dNil))) (dCons (dC (.str "")) (dCons (dC (.int 3)) dNil)))) (dCons (dTup (dCons (dLst (dCons (dBin gAdd (dVar 2) (dVar 1)) dNil)) (dCons (dC (.str "")) (dCons (dNeg (dC (.int 2))) dNil)))) dNil))))))))))
def m__law_newton : List D → Option D := runD 4 d__law_newton
def d__law_own : DS := (dSeq (dSet 1 (dC (.int 1))) (dSeq (dFor (.nm 2) (dIt (dFld 1 "terms" (dVar 0))) (dSeq (dSet 3 (dSubO 1 m_Poly___getitem__ (dVar 0) (dVar 2))) (dSeq (dIf (dOr (dNot (dB (dIsO 0 (dVar 3)))) (dOr (dB (dBin (gLt) (dFld 0 "den" (dVar 3)) (dC (.int 1)))) (dB (dBin (gEqA false) (dFld 0 "num" (dVar 3)) (dC (.int 0)))))) (dRet (dC .non)) dNext) (dIf (dB (dBin (gEqA true) (dBin (gIc (fun _ j => 0 < j) fun i j => i % j) (dMap gInt (dVar 1)) (dFld 0 "den" (dVar 3))) (dC (.int 0)))) (dSet 1 (dBin gMul (dVar 1) (dFld 0 "den" (dVar 3)))) dNext)))) (dRet (dLst (dCons (dLc [2] (.nm 2) (dIt (dFld 1 "terms" (dVar 0))) dYes (dTup (dCons (dMap gList (dBin gIx (dVar 2) (dC (.int 0)))) (dCons (dBin gIx (dVar 2) (dC (.int 1))) (dCons (dBin gMul (dFld 0 "num" (dSubO 1 m_Poly___getitem__ (dVar 0) (dVar 2))) (dBin (gIc CDivW fun i j => i / j) (dVar 1) (dFld 0 "den" (dSubO 1 m_Poly___getitem__ (dVar 0) (dVar 2))))) dNil))))) (dCons (dVar 1) dNil))))))
def m__law_own : List D → Option D := runD 4 d__law_own
def d__law_equal : DS := (dSeq (dIf (dOr (dNot (dB (dIsO 1 (dVar 1)))) (dOr (dB (dBin (gEqA true) (dFld 1 "kind" (dVar 0)) (dFld 1 "kind" (dVar 1)))) (dB (dBin (gEqA true) (dMap gList (dFld 1 "terms" (dVar 0))) (dMap gList (dFld 1 "terms" (dVar 1))))))) (dRet (dC (.bl false))) dNext) (dRet (dBin (gEqA false) (dMap gLen (dLc [2] (.nm 2) (dIt (dFld 1 "terms" (dVar 0))) (dNot (dB (dCall 3 m__law_same_number [] (dCons (dSubO 1 m_Poly___getitem__ (dVar 1) (dVar 2)) (dCons (dFld 0 "num" (dSubO 1 m_Poly___getitem__ (dVar 0) (dVar 2))) (dCons (dFld 0 "den" (dSubO 1 m_Poly___getitem__ (dVar 0) (dVar 2))) dNil)))))) (dVar 2))) (dC (.int 0)))))
def m__law_equal : List D → Option D := runD 3 d__law_equal
def d__law_is_short : DS := (dSeq (dIf (dOr (dNot (dB (dIsO 1 (dVar 0)))) (dB (dBin (gEqA true) (dFld 1 "kind" (dVar 0)) (dVar 1)))) (dRet (dC (.bl false))) dNext) (dSeq (dFor (.tp [4, 5]) (dIt (dFld 1 "terms" (dVar 0))) (dSeq (dIf (dOr (dB (dBin (gEqA true) (dVar 5) (dBin gMul (dVar 2) (dMap gLen (dVar 5))))) (dB (dBin (gIB fun i j => decide (j ≤ i)) (dMap gLen (dVar 5)) (dVar 3)))) (dRet (dC (.bl false))) dNext) (dFor (.nm 6) (dIt (dVar 4)) (dIf (dOr (dB (dBin (gEqA true) (dVar 6) (dBin gMul (dVar 2) (dMap gLen (dVar 6))))) (dOr (dB (dBin (gLt) (dMap gLen (dVar 6)) (dC (.int 1)))) (dB (dBin (gIB fun i j => decide (j < i)) (dMap gLen (dVar 6)) (dVar 3))))) (dRet (dC (.bl false))) dNext)))) (dRet (dC (.bl true)))))
def m__law_is_short : List D → Option D := runD 7 d__law_is_short
def d__law_value_stays : DS := (dSeq (dIf (dNot (dB (dCall 4 m__law_is_short [] (dCons (dVar 0) (dCons (dVar 1) (dCons (dVar 4) (dCons (dVar 5) dNil))))))) (dRet (dC (.bl false))) dNext) (dSeq (dSet 7 (dCall 1 m__law_own [] (dCons (dVar 0) dNil))) (dSeq (dIf (dB (dBin (gIsN false) (dVar 7) (dC .non))) (dRet (dC (.bl false))) dNext) (dSeq (dSet 8 (dCall 4 m__law_in_one [] (dCons (dVar 2) (dCons (dVar 1) (dCons (dVar 5) (dCons (dVar 6) dNil)))))) (dSeq (dSet 9 (dCall 4 m__law_in_one [] (dCons (dBin gIx (dVar 7) (dC (.int 0))) (dCons (dVar 1) (dCons (dVar 5) (dCons (dVar 6) dNil)))))) (dSeq (dIf (dB (dBin (gEqA false) (dVar 1) (dC (.str "number")))) (dRet (dBin (gEqA false) (dBin gMul (dVar 8) (dBin gIx (dVar 7) (dC (.int 1)))) (dBin gMul (dVar 9) (dVar 3)))) dNext) (dSeq (dFor (.nm 10) (dRg1 (dCons (dVar 5) dNil)) (dIf (dB (dBin (gEqA true) (dLc [11] (.nm 11) (dIt (dBin gIx (dVar 8) (dVar 10))) dYes (dBin gMul (dVar 11) (dBin gIx (dVar 7) (dC (.int 1))))) (dLc [11] (.nm 11) (dIt (dBin gIx (dVar 9) (dVar 10))) dYes (dBin gMul (dVar 11) (dVar 3))))) (dRet (dC (.bl false))) dNext)) (dRet (dC (.bl true))))))))))
def m__law_value_stays : List D → Option D := runD 12 d__law_value_stays
def d__law_nothing : DS := (dSeq (dSet 4 (dCall 2 m__law_newton [] (dCons (dVar 3) (dCons (dVar 2) dNil)))) (dSeq (dSet 5 (dCall 2 m__law_number [] (dCons (dVar 0) (dCons (dC (.int 10)) dNil)))) (dSeq (dSet 6 (dCall 6 m__law_powers [] (dCons (dVar 0) (dCons (dC (.int 11)) (dCons (dBin gAdd (dC (.int 1)) (dBin (gIc (fun _ j => 0 < j) fun i j => i % j) (dMap gInt (dVar 5)) (dC (.int 2)))) (dCons (dLst (dCons (dC (.int 0)) (dCons (dC (.int 1)) (dCons (dC (.int 2)) (dCons (dC (.int 3)) dNil))))) (dCons (dVar 2) (dCons (dC (.str "matrix")) dNil)))))))) (dSeq (dSet 7 (dCall 6 m__law_powers [] (dCons (dVar 0) (dCons (dC (.int 13)) (dCons (dBin gAdd (dC (.int 1)) (dBin (gIc (fun _ j => 0 < j) fun i j => i % j) (dMap gInt (dBin (gIc CDivW fun i j => i / j) (dVar 5) (dC (.int 2)))) (dC (.int 2)))) (dCons (dLst (dCons (dC (.int 1)) (dCons (dC (.int 0)) (dCons (dC (.int 2)) (dCons (dC (.int 3)) dNil))))) (dCons (dVar 2) (dCons (dC (.str "matrix")) dNil)))))))) (dSeq (dSet 8 (dCall 2 m__law_closed [] (dCons (dCall 2 m__law_joined [] (dCons (dVar 7) (dCons (dVar 4) dNil))) (dCons (dVar 3) dNil)))) (dSeq (dIf (dB (dBin (gEqA false) (dVar 1) (dC (.str "number")))) (dRet (dVar 8)) dNext) (dRet (dBin gAdd (dCall 2 m__law_joined [] (dCons (dVar 6) (dCons (dVar 4) dNil))) (dCall 2 m__law_joined [] (dCons (dVar 8) (dCons (dLst (dCons (dTup (dCons (dLst dNil) (dCons (dBin gMul (dVar 2) (dBin (gIc (fun _ j => 0 < j) fun i j => i % j) (dMap gInt (dBin (gIc CDivW fun i j => i / j) (dVar 5) (dC (.int 4)))) (dC (.int 4)))) (dCons (dC (.int 1)) dNil)))) dNil)) dNil)))))))))))
def m__law_nothing : List D → Option D := runD 9 d__law_nothing
def d__law_refusal : DS := (dSeq (dTry 2 2 m_reduce_one (dCons (dVar 0) (dCons (dVar 1) dNil)) hand__law_refusal) (dRet (dLst dNil)))
def m__law_refusal : List D → Option D := runD 3 d__law_refusal
def d__law_refuses : DS := (dSeq (dSet 5 (dCall 2 m__law_number [] (dCons (dVar 0) (dCons (dC (.int 15)) dNil)))) (dSeq (dSet 6 (dBin gIx (dLst (dCons (dC (.int 0)) (dCons (dC (.int 4)) (dCons (dNeg (dC (.int 3))) (dCons (dBin (gIc CPow fun i j => i ^ j.toNat) (dC (.int 10)) (dC (.int 20))) dNil))))) (dBin (gIc (fun _ j => 0 < j) fun i j => i % j) (dMap gInt (dVar 5)) (dC (.int 4))))) (dSeq (dSet 7 (dLst (dCons (dBin gIx (dVar 3) (dC (.int 0))) (dCons (dBin gIx (dVar 3) (dC (.int 1))) dNil)))) (dSeq (dIf (dB (dBin (gEqA false) (dBin (gIc (fun _ j => 0 < j) fun i j => i % j) (dMap gInt (dBin (gIc CDivW fun i j => i / j) (dVar 5) (dC (.int 4)))) (dC (.int 3))) (dC (.int 0)))) (dSet 7 (dLst (dCons (dBin gAdd (dBin gMul (dBin gIx (dVar 3) (dC (.int 0))) (dC (.int 3))) (dBin gIx (dVar 3) (dC (.int 1)))) dNil))) dNext) (dSeq (dSet 8 (dBin (gOwn 1 m_Poly___add__) (dVar 1) (dMake 3 m_Poly___init__ [] (dCons (dVar 2) (dCons (dLst (dCons (dTup (dCons (dVar 7) (dCons (dC (.str "")) (dCons (dMake 3 m_Ratio___init___2 [] (dCons (dBin gAdd (dC (.int 1)) (dBin (gIc (fun _ j => 0 < j) fun i j => i % j) (dMap gInt (dBin (gIc CDivW fun i j => i / j) (dVar 5) (dC (.int 12)))) (dC (.int 5)))) (dCons (dC (.int 7)) dNil))) dNil)))) dNil)) dNil))))) (dSeq (dIf (dOr (dB (dBin (gEqA true) (dCall 2 m__law_refusal [] (dCons (dVar 6) (dCons (dVar 1) dNil))) (dLst (dCons (dC (.bl true)) (dCons (dC (.bl false)) (dCons (dC (.bl true)) dNil)))))) (dB (dBin (gEqA true) (dCall 2 m__law_refusal [] (dCons (dVar 6) (dCons (dVar 8) dNil))) (dLst (dCons (dC (.bl true)) (dCons (dC (.bl false)) (dCons (dC (.bl true)) dNil))))))) (dRet (dC (.bl false))) dNext) (dRet (dBin (gEqA false) (dCall 2 m__law_refusal [] (dCons (dVar 4) (dCons (dVar 8) dNil))) (dLst (dCons (dC (.bl false)) (dCons (dC (.bl true)) (dCons (dC (.bl true)) dNil))))))))))))
def m__law_refuses : List D → Option D := runD 9 d__law_refuses
def d_law : DS := (dSeq (dSet 1 (dCall 2 m__law_number [] (dCons (dVar 0) (dCons (dC (.int 0)) dNil)))) (dSeq (dSet 2 (dBin gIx (dLst (dCons (dC (.str "number")) (dCons (dC (.str "matrix")) dNil))) (dBin (gIc (fun _ j => 0 < j) fun i j => i % j) (dMap gInt (dVar 1)) (dC (.int 2))))) (dSeq (dSet 3 (dBin gIx (dLst (dCons (dC (.int 3)) (dCons (dC (.int 2)) (dCons (dC (.int 1)) (dCons (dC (.int 2)) (dCons (dC (.int 3)) dNil)))))) (dBin (gIc (fun _ j => 0 < j) fun i j => i % j) (dMap gInt (dBin (gIc CDivW fun i j => i / j) (dVar 1) (dC (.int 2)))) (dC (.int 5))))) (dSeq (dSet 4 (dBin gAdd (dC (.int 1)) (dBin (gIc (fun _ j => 0 < j) fun i j => i % j) (dMap gInt (dBin (gIc CDivW fun i j => i / j) (dVar 1) (dC (.int 10)))) (dC (.int 3))))) (dSeq (dSet 5 (dBin gAdd (dC (.int 1)) (dBin (gIc (fun _ j => 0 < j) fun i j => i % j) (dMap gInt (dBin (gIc CDivW fun i j => i / j) (dVar 1) (dC (.int 30)))) (dC (.int 4))))) (dSeq (dSet 6 (dCall 1 m__law_menu [] (dCons (dCall 2 m__law_number [] (dCons (dVar 0) (dCons (dC (.int 1)) dNil))) dNil))) (dSeq (dSet 7 (dBin gIx (dVar 6) (dC (.int 0)))) (dSeq (dSet 8 (dBin gIx (dLst (dCons (dC (.int 0)) (dCons (dC (.int 2)) (dCons (dC (.int 1)) (dCons (dC (.int 3)) (dCons (dC (.int 3)) (dCons (dC (.int 4)) (dCons (dC (.int 5)) dNil)))))))) (dBin (gIc (fun _ j => 0 < j) fun i j => i % j) (dMap gInt (dBin (gIc CDivW fun i j => i / j) (dVar 1) (dC (.int 120)))) (dC (.int 7))))) (dSeq (dSet 9 (dBin gIx (dLst (dCons (dC (.int 1)) (dCons (dC (.int 1)) (dCons (dC (.int 1)) (dCons (dC (.int 1)) (dCons (dC (.int 1)) (dCons (dBin gAdd (dBin (gIc CPow fun i j => i ^ j.toNat) (dC (.int 10)) (dC (.int 40))) (dC (.int 7))) dNil))))))) (dBin (gIc (fun _ j => 0 < j) fun i j => i % j) (dMap gInt (dBin (gIc CDivW fun i j => i / j) (dVar 1) (dC (.int 840)))) (dC (.int 6))))) (dSeq (dSetO 10 (dLc [17] (.nm 17) (dIt (dCall 6 m__law_powers [] (dCons (dVar 0) (dCons (dC (.int 2)) (dCons (dVar 8) (dCons (dLst (dCons (dC (.int 4)) (dCons (dC (.int 0)) (dCons (dC (.int 1)) (dCons (dC (.int 2)) (dCons (dC (.int 3)) (dCons (dC (.int 5)) (dCons (dC (.int 6)) (dCons (dC (.int 7)) (dCons (dC (.int 8)) (dCons (dC (.int 12)) dNil))))))))))) (dCons (dVar 7) (dCons (dVar 2) dNil)))))))) dYes (dTup (dCons (dBin gIx (dVar 17) (dC (.int 0))) (dCons (dBin gIx (dVar 17) (dC (.int 1))) (dCons (dBin gMul (dBin gIx (dVar 17) (dC (.int 2))) (dVar 9)) dNil)))))) (dSeq (dIf (dAnd (dB (dBin (gLt) (dVar 3) (dC (.int 3)))) (dAnd (dB (dBin (gLt) (dVar 4) (dC (.int 3)))) (dB (dBin (gEqA false) (dBin (gIc (fun _ j => 0 < j) fun i j => i % j) (dMap gInt (dCall 2 m__law_number [] (dCons (dVar 0) (dCons (dC (.int 20)) dNil)))) (dC (.int 2))) (dC (.int 0)))))) (dFrz 10 (dSet 10 (dBin gAdd (dVar 10) (dCall 6 m__law_powers [] (dCons (dVar 0) (dCons (dC (.int 19)) (dCons (dC (.int 1)) (dCons (dBin gIx (dLst (dCons (dLst (dCons (dC (.int 17)) (dCons (dC (.int 18)) (dCons (dC (.int 19)) (dCons (dC (.int 20)) dNil))))) (dCons (dLst (dCons (dC (.int 13)) (dCons (dC (.int 14)) (dCons (dC (.int 15)) (dCons (dC (.int 16)) dNil))))) dNil))) (dBin (gI fun i j => i - j) (dMax2 (dCons (dVar 3) (dCons (dVar 4) dNil))) (dC (.int 1)))) (dCons (dVar 7) (dCons (dVar 2) dNil)))))))))) dNext) (dSeq (dFrz 10 (dSet 11 (dCall 3 m__law_poly [] (dCons (dVar 2) (dCons (dVar 10) (dCons (dVar 5) dNil)))))) (dSeq (dIf (dNot (dB (dCall 5 m__law_refuses [] (dCons (dVar 0) (dCons (dVar 11) (dCons (dVar 2) (dCons (dVar 6) (dCons (dVar 3) dNil)))))))) (dRet (dC (.bl false))) dNext) (dSeq (dSet 12 (dCall 2 (okOf m_reduce_one) [] (dCons (dVar 3) (dCons (dVar 11) dNil)))) (dSeq (dSet 13 (dCall 3 m__law_matrix [] (dCons (dCall 2 m__law_number [] (dCons (dVar 0) (dCons (dC (.int 16)) dNil))) (dCons (dVar 3) (dCons (dC (.int 3)) dNil))))) (dSeq (dIf (dNot (dB (dCall 7 m__law_value_stays [] (dCons (dVar 12) (dCons (dVar 2) (dCons (dVar 10) (dCons (dVar 5) (dCons (dVar 7) (dCons (dVar 3) (dCons (dVar 13) dNil)))))))))) (dRet (dC (.bl false))) dNext) (dSeq (dSet 13 (dCall 3 m__law_matrix [] (dCons (dCall 2 m__law_number [] (dCons (dVar 0) (dCons (dC (.int 17)) dNil))) (dCons (dVar 4) (dCons (dC (.int 3)) dNil))))) (dSeq (dIf (dNot (dB (dCall 7 m__law_value_stays [] (dCons (dCall 2 (okOf m_reduce_one) [] (dCons (dVar 4) (dCons (dVar 11) dNil))) (dCons (dVar 2) (dCons (dVar 10) (dCons (dVar 5) (dCons (dVar 7) (dCons (dVar 4) (dCons (dVar 13) dNil)))))))))) (dRet (dC (.bl false))) dNext) (dSeq (dSet 14 (dCall 3 m__law_poly [] (dCons (dVar 2) (dCons (dCall 4 m__law_nothing [] (dCons (dVar 0) (dCons (dVar 2) (dCons (dVar 7) (dCons (dVar 3) dNil))))) (dCons (dC (.int 6)) dNil))))) (dSeq (dFor (.nm 15) (dIt (dLst (dCons (dVar 11) (dCons (dBin (gOwn 1 m_Poly___add__) (dVar 11) (dVar 14)) (dCons (dBin (gOwn 1 m_Poly___add__) (dVar 14) (dVar 11)) (dCons (dVar 12) dNil)))))) (dIf (dNot (dB (dCall 2 m__law_equal [] (dCons (dVar 12) (dCons (dCall 2 (okOf m_reduce_one) [] (dCons (dVar 3) (dCons (dVar 15) dNil))) dNil))))) (dRet (dC (.bl false))) dNext)) (dSeq (dIf (dB (dBin (gEqA true) (dLenO 1 m_Poly___len__ (dCall 2 (okOf m_reduce_one) [] (dCons (dVar 3) (dCons (dVar 14) dNil)))) (dC (.int 0)))) (dRet (dC (.bl false))) dNext) (dSeq (dSet 16 (dCall 2 m_Poly_constant [] (dCons (dVar 2) (dCons (dMake 3 m_Ratio___init___2 [] (dCons (dBin (gI fun i j => i - j) (dBin (gIc (fun _ j => 0 < j) fun i j => i % j) (dMap gInt (dCall 2 m__law_number [] (dCons (dVar 0) (dCons (dC (.int 18)) dNil)))) (dC (.int 13))) (dC (.int 6))) (dCons (dVar 5) dNil))) dNil)))) (dSeq (dIf (dNot (dB (dCall 2 m__law_equal [] (dCons (dVar 16) (dCons (dCall 2 (okOf m_reduce_one) [] (dCons (dVar 3) (dCons (dVar 16) dNil))) dNil))))) (dRet (dC (.bl false))) dNext) (dRet (dCall 4 m__law_same_poly [] (dCons (dVar 11) (dCons (dVar 2) (dCons (dCall 1 m__law_rows [] (dCons (dVar 10) dNil)) (dCons (dVar 5) dNil)))))))))))))))))))))))))))))
def m_law : List D → Option D := runD 18 d_law
end Pd73

/-! k73: the defs as they stand, the facts of the head, each def keeps its promise (printed by ktgen.py). -/
namespace Pd73
open PySem PySem.Spec PyProof.Rows L2 Pd
structure Ev (K : PySem.W.Frag) (mg : Str → Option Value) (cls : Nat → Addr) where
  a_Ratio___init__ : Addr
  a_Ratio___add__ : Addr
  a_Ratio___sub__ : Addr
  a_Ratio___mul__ : Addr
  a_Ratio___neg__ : Addr
  a_Ratio___bool__ : Addr
  a_check_size : Addr
  a_least_rotation : Addr
  a_term_key : Addr
  a_content_of : Addr
  a_Poly___init__ : Addr
  a_poly_of : Addr
  a_same_kind : Addr
  a_Poly_constant : Addr
  a_Poly_degree : Addr
  a_Poly___add__ : Addr
  a_Poly_scaled : Addr
  a_Poly___neg__ : Addr
  a_Poly___sub__ : Addr
  a_Poly___mul__ : Addr
  a_Poly___len__ : Addr
  a_Poly___getitem__ : Addr
  a_Poly_used_letters : Addr
  a_power_trace : Addr
  a_letter_power : Addr
  q_1_constant : Addr
  a_elementary : Addr
  a_only_letter : Addr
  a_continued : Addr
  q_1_degree : Addr
  a_reduce_one : Addr
  a__law_cell : Addr
  a__law_number : Addr
  a__law_menu : Addr
  a__law_matrix : Addr
  a__law_times : Addr
  a__law_one : Addr
  a__law_in_one : Addr
  a__law_poly : Addr
  a__law_same_number : Addr
  a__law_key : Addr
  a__law_rows : Addr
  a__law_same_poly : Addr
  a__law_joined : Addr
  a__law_closed : Addr
  a__law_cut : Addr
  a__law_powers : Addr
  a__law_newton : Addr
  a__law_own : Addr
  a__law_equal : Addr
  a__law_is_short : Addr
  a__law_value_stays : Addr
  a__law_nothing : Addr
  a__law_refusal : Addr
  a__law_refuses : Addr
  a_law : Addr
  t_SIZES_a : Addr
  g_gcd : mg "gcd" = some (.builtin "math.gcd")
  c_0 : Cls K (cls 0)
  na_0_num : NoAttr K (cls 0) "num"
  na_0_den : NoAttr K (cls 0) "den"
  f_Ratio___init__ : ∃ fd, FunD K "__init__" "Ratio.__init__" (defArgs (inC (top 12) 0)) (defBody (inC (top 12) 0)) (defScope (inC (top 12) 0)) [V.int 1] [] a_Ratio___init__ fd
  b_isinstance : mg "isinstance" = none
  is_0 : IsC K (cls 0)
  g_Ratio : mg "Ratio" = some (.ref (cls 0))
  mk_0 : Mk K (cls 0) a_Ratio___init__
  f_Ratio___add__ : ∃ fd, FunD K "__add__" "Ratio.__add__" (defArgs (inC (top 12) 2)) (defBody (inC (top 12) 2)) (defScope (inC (top 12) 2)) [] [] a_Ratio___add__ fd
  f_Ratio___sub__ : ∃ fd, FunD K "__sub__" "Ratio.__sub__" (defArgs (inC (top 12) 3)) (defBody (inC (top 12) 3)) (defScope (inC (top 12) 3)) [] [] a_Ratio___sub__ fd
  f_Ratio___mul__ : ∃ fd, FunD K "__mul__" "Ratio.__mul__" (defArgs (inC (top 12) 4)) (defBody (inC (top 12) 4)) (defScope (inC (top 12) 4)) [] [] a_Ratio___mul__ fd
  f_Ratio___neg__ : ∃ fd, FunD K "__neg__" "Ratio.__neg__" (defArgs (inC (top 12) 6)) (defBody (inC (top 12) 6)) (defScope (inC (top 12) 6)) [] [] a_Ratio___neg__ fd
  b_bool : mg "bool" = none
  f_Ratio___bool__ : ∃ fd, FunD K "__bool__" "Ratio.__bool__" (defArgs (inC (top 12) 8)) (defBody (inC (top 12) 8)) (defScope (inC (top 12) 8)) [] [] a_Ratio___bool__ fd
  t_SIZES_g : mg "SIZES" = some (.ref t_SIZES_a)
  t_SIZES_s : ∀ H, SqT K H t_SIZES_a ([1, 2, 3].map V.int)
  ex_2 : PySem.W.excIn K (cls 2) [.type "ValueError", .type "Exception", .type "BaseException", .type "object"] "ValueError.__new__" = true
  ex_2_k : PySem.W.keepIn K (.ref (cls 2)) = true
  ex_2_s : PySem.W.subIn K (.ref (cls 2)) (.type "BaseException") = some true
  ex_2_t : PySem.W.typeIn K (.ref (cls 2)) = some (.type "type")
  g_WrongSize : mg "WrongSize" = some (.ref (cls 2))
  f_check_size : ∃ fd, FunD K "check_size" "check_size" (defArgs (top 16)) (defBody (top 16)) (defScope (top 16)) [] [] a_check_size fd
  b_min : mg "min" = none
  b_len : mg "len" = none
  b_range : mg "range" = none
  f_least_rotation : ∃ fd, FunD K "least_rotation" "least_rotation" (defArgs (top 18)) (defBody (top 18)) (defScope (top 18)) [] [] a_least_rotation fd
  b_tuple : mg "tuple" = none
  b_sorted : mg "sorted" = none
  g_least_rotation : mg "least_rotation" = some (.ref a_least_rotation)
  f_term_key : ∃ fd, FunD K "term_key" "term_key" (defArgs (top 19)) (defBody (top 19)) (defScope (top 19)) [] [] a_term_key fd
  f_content_of : ∃ fd, FunD K "content_of" "content_of" (defArgs (top 20)) (defBody (top 20)) (defScope (top 20)) [] [] a_content_of fd
  g_term_key : mg "term_key" = some (.ref a_term_key)
  me_0___add__ : Meth K (cls 0) "__add__" a_Ratio___add__
  sf_0 : PySem.W.selfFirst K (cls 0) = true
  c_1 : Cls K (cls 1)
  na_1_kind : NoAttr K (cls 1) "kind"
  me_0___bool__ : Meth K (cls 0) "__bool__" a_Ratio___bool__
  na_1_coefficients : NoAttr K (cls 1) "coefficients"
  na_1_terms : NoAttr K (cls 1) "terms"
  f_Poly___init__ : ∃ fd, FunD K "__init__" "Poly.__init__" (defArgs (inC (top 22) 0)) (defBody (inC (top 22) 0)) (defScope (inC (top 22) 0)) [] [] a_Poly___init__ fd
  mk_1 : Mk K (cls 1) a_Poly___init__
  g_Poly : mg "Poly" = some (.ref (cls 1))
  f_poly_of : ∃ fd, FunD K "poly_of" "poly_of" (defArgs (top 23)) (defBody (top 23)) (defScope (top 23)) [] [] a_poly_of fd
  f_same_kind : ∃ fd, FunD K "same_kind" "same_kind" (defArgs (top 24)) (defBody (top 24)) (defScope (top 24)) [] [] a_same_kind fd
  f_Poly_constant : ∃ fd, FunD K "constant" "Poly.constant" (defArgs (inC (top 22) 2)) (defBody (inC (top 22) 2)) (defScope (inC (top 22) 2)) [] [] a_Poly_constant fd
  b_max : mg "max" = none
  g_content_of : mg "content_of" = some (.ref a_content_of)
  f_Poly_degree : ∃ fd, FunD K "degree" "Poly.degree" (defArgs (inC (top 22) 3)) (defBody (inC (top 22) 3)) (defScope (inC (top 22) 3)) [] [] a_Poly_degree fd
  is_1 : IsC K (cls 1)
  g_same_kind : mg "same_kind" = some (.ref a_same_kind)
  g_poly_of : mg "poly_of" = some (.ref a_poly_of)
  f_Poly___add__ : ∃ fd, FunD K "__add__" "Poly.__add__" (defArgs (inC (top 22) 4)) (defBody (inC (top 22) 4)) (defScope (inC (top 22) 4)) [] [] a_Poly___add__ fd
  me_0___mul__ : Meth K (cls 0) "__mul__" a_Ratio___mul__
  f_Poly_scaled : ∃ fd, FunD K "scaled" "Poly.scaled" (defArgs (inC (top 22) 13)) (defBody (inC (top 22) 13)) (defScope (inC (top 22) 13)) [] [] a_Poly_scaled fd
  me_1_scaled : Meth K (cls 1) "scaled" a_Poly_scaled
  f_Poly___neg__ : ∃ fd, FunD K "__neg__" "Poly.__neg__" (defArgs (inC (top 22) 7)) (defBody (inC (top 22) 7)) (defScope (inC (top 22) 7)) [] [] a_Poly___neg__ fd
  me_1___neg__ : Meth K (cls 1) "__neg__" a_Poly___neg__
  me_1___add__ : Meth K (cls 1) "__add__" a_Poly___add__
  sf_1 : PySem.W.selfFirst K (cls 1) = true
  f_Poly___sub__ : ∃ fd, FunD K "__sub__" "Poly.__sub__" (defArgs (inC (top 22) 5)) (defBody (inC (top 22) 5)) (defScope (inC (top 22) 5)) [] [] a_Poly___sub__ fd
  f_Poly___mul__ : ∃ fd, FunD K "__mul__" "Poly.__mul__" (defArgs (inC (top 22) 6)) (defBody (inC (top 22) 6)) (defScope (inC (top 22) 6)) [] [] a_Poly___mul__ fd
  f_Poly___len__ : ∃ fd, FunD K "__len__" "Poly.__len__" (defArgs (inC (top 22) 9)) (defBody (inC (top 22) 9)) (defScope (inC (top 22) 9)) [] [] a_Poly___len__ fd
  f_Poly___getitem__ : ∃ fd, FunD K "__getitem__" "Poly.__getitem__" (defArgs (inC (top 22) 12)) (defBody (inC (top 22) 12)) (defScope (inC (top 22) 12)) [] [] a_Poly___getitem__ fd
  b_set : mg "set" = none
  f_Poly_used_letters : ∃ fd, FunD K "used_letters" "Poly.used_letters" (defArgs (inC (top 22) 16)) (defBody (inC (top 22) 16)) (defScope (inC (top 22) 16)) [] [] a_Poly_used_letters fd
  f_power_trace : ∃ fd, FunD K "power_trace" "power_trace" (defArgs (top 29)) (defBody (top 29)) (defScope (top 29)) [] [] a_power_trace fd
  f_letter_power : ∃ fd, FunD K "letter_power" "letter_power" (defArgs (top 30)) (defBody (top 30)) (defScope (top 30)) [] [] a_letter_power fd
  sm_1_constant : SMet K (cls 1) (.type "type") "constant" q_1_constant a_Poly_constant
  g_power_trace : mg "power_trace" = some (.ref a_power_trace)
  me_1___mul__ : Meth K (cls 1) "__mul__" a_Poly___mul__
  me_1___sub__ : Meth K (cls 1) "__sub__" a_Poly___sub__
  f_elementary : ∃ fd, FunD K "elementary" "elementary" (defArgs (top 26)) (defBody (top 26)) (defScope (top 26)) [] [] a_elementary fd
  me_1_used_letters : Meth K (cls 1) "used_letters" a_Poly_used_letters
  ex_3 : PySem.W.excIn K (cls 3) [.type "ValueError", .type "Exception", .type "BaseException", .type "object"] "ValueError.__new__" = true
  ex_3_k : PySem.W.keepIn K (.ref (cls 3)) = true
  ex_3_s : PySem.W.subIn K (.ref (cls 3)) (.type "BaseException") = some true
  ex_3_t : PySem.W.typeIn K (.ref (cls 3)) = some (.type "type")
  g_InvalidPolynomial : mg "InvalidPolynomial" = some (.ref (cls 3))
  f_only_letter : ∃ fd, FunD K "only_letter" "only_letter" (defArgs (top 28)) (defBody (top 28)) (defScope (top 28)) [] [] a_only_letter fd
  b_list : mg "list" = none
  f_continued : ∃ fd, FunD K "continued" "continued" (defArgs (top 31)) (defBody (top 31)) (defScope (top 31)) [] [] a_continued fd
  g_check_size : mg "check_size" = some (.ref a_check_size)
  g_only_letter : mg "only_letter" = some (.ref a_only_letter)
  g_elementary : mg "elementary" = some (.ref a_elementary)
  p_1_degree : PropOf K (cls 1) "degree" q_1_degree a_Poly_degree
  g_continued : mg "continued" = some (.ref a_continued)
  g_letter_power : mg "letter_power" = some (.ref a_letter_power)
  me_1___getitem__ : Meth K (cls 1) "__getitem__" a_Poly___getitem__
  fi_a_Poly___getitem__ : PySem.W.fnIn K a_Poly___getitem__ = true
  f_reduce_one : ∃ fd, FunD K "reduce_one" "reduce_one" (defArgs (top 27)) (defBody (top 27)) (defScope (top 27)) [] [] a_reduce_one fd
  f__law_cell : ∃ fd, FunD K "_law_cell" "_law_cell" (defArgs (top 33)) (defBody (top 33)) (defScope (top 33)) [] [] a__law_cell fd
  b_abs : mg "abs" = none
  g__law_cell : mg "_law_cell" = some (.ref a__law_cell)
  b_int : mg "int" = none
  f__law_number : ∃ fd, FunD K "_law_number" "_law_number" (defArgs (top 34)) (defBody (top 34)) (defScope (top 34)) [] [] a__law_number fd
  f__law_menu : ∃ fd, FunD K "_law_menu" "_law_menu" (defArgs (top 35)) (defBody (top 35)) (defScope (top 35)) [] [] a__law_menu fd
  f__law_matrix : ∃ fd, FunD K "_law_matrix" "_law_matrix" (defArgs (top 36)) (defBody (top 36)) (defScope (top 36)) [] [] a__law_matrix fd
  b_sum : mg "sum" = none
  f__law_times : ∃ fd, FunD K "_law_times" "_law_times" (defArgs (top 37)) (defBody (top 37)) (defScope (top 37)) [] [] a__law_times fd
  f__law_one : ∃ fd, FunD K "_law_one" "_law_one" (defArgs (top 38)) (defBody (top 38)) (defScope (top 38)) [] [] a__law_one fd
  g__law_one : mg "_law_one" = some (.ref a__law_one)
  g__law_times : mg "_law_times" = some (.ref a__law_times)
  f__law_in_one : ∃ fd, FunD K "_law_in_one" "_law_in_one" (defArgs (top 39)) (defBody (top 39)) (defScope (top 39)) [] [] a__law_in_one fd
  f__law_poly : ∃ fd, FunD K "_law_poly" "_law_poly" (defArgs (top 40)) (defBody (top 40)) (defScope (top 40)) [] [] a__law_poly fd
  f__law_same_number : ∃ fd, FunD K "_law_same_number" "_law_same_number" (defArgs (top 41)) (defBody (top 41)) (defScope (top 41)) [] [] a__law_same_number fd
  f__law_key : ∃ fd, FunD K "_law_key" "_law_key" (defArgs (top 42)) (defBody (top 42)) (defScope (top 42)) [] [] a__law_key fd
  g__law_key : mg "_law_key" = some (.ref a__law_key)
  f__law_rows : ∃ fd, FunD K "_law_rows" "_law_rows" (defArgs (top 43)) (defBody (top 43)) (defScope (top 43)) [] [] a__law_rows fd
  g__law_same_number : mg "_law_same_number" = some (.ref a__law_same_number)
  f__law_same_poly : ∃ fd, FunD K "_law_same_poly" "_law_same_poly" (defArgs (top 44)) (defBody (top 44)) (defScope (top 44)) [] [] a__law_same_poly fd
  f__law_joined : ∃ fd, FunD K "_law_joined" "_law_joined" (defArgs (top 45)) (defBody (top 45)) (defScope (top 45)) [] [] a__law_joined fd
  f__law_closed : ∃ fd, FunD K "_law_closed" "_law_closed" (defArgs (top 46)) (defBody (top 46)) (defScope (top 46)) [] [] a__law_closed fd
  f__law_cut : ∃ fd, FunD K "_law_cut" "_law_cut" (defArgs (top 47)) (defBody (top 47)) (defScope (top 47)) [] [] a__law_cut fd
  g__law_number : mg "_law_number" = some (.ref a__law_number)
  g__law_cut : mg "_law_cut" = some (.ref a__law_cut)
  f__law_powers : ∃ fd, FunD K "_law_powers" "_law_powers" (defArgs (top 48)) (defBody (top 48)) (defScope (top 48)) [] [] a__law_powers fd
  f__law_newton : ∃ fd, FunD K "_law_newton" "_law_newton" (defArgs (top 49)) (defBody (top 49)) (defScope (top 49)) [] [] a__law_newton fd
  f__law_own : ∃ fd, FunD K "_law_own" "_law_own" (defArgs (top 50)) (defBody (top 50)) (defScope (top 50)) [] [] a__law_own fd
  f__law_equal : ∃ fd, FunD K "_law_equal" "_law_equal" (defArgs (top 51)) (defBody (top 51)) (defScope (top 51)) [] [] a__law_equal fd
  f__law_is_short : ∃ fd, FunD K "_law_is_short" "_law_is_short" (defArgs (top 52)) (defBody (top 52)) (defScope (top 52)) [] [] a__law_is_short fd
  g__law_is_short : mg "_law_is_short" = some (.ref a__law_is_short)
  g__law_own : mg "_law_own" = some (.ref a__law_own)
  g__law_in_one : mg "_law_in_one" = some (.ref a__law_in_one)
  f__law_value_stays : ∃ fd, FunD K "_law_value_stays" "_law_value_stays" (defArgs (top 53)) (defBody (top 53)) (defScope (top 53)) [] [] a__law_value_stays fd
  g__law_newton : mg "_law_newton" = some (.ref a__law_newton)
  g__law_powers : mg "_law_powers" = some (.ref a__law_powers)
  g__law_joined : mg "_law_joined" = some (.ref a__law_joined)
  g__law_closed : mg "_law_closed" = some (.ref a__law_closed)
  f__law_nothing : ∃ fd, FunD K "_law_nothing" "_law_nothing" (defArgs (top 54)) (defBody (top 54)) (defScope (top 54)) [] [] a__law_nothing fd
  xc_2 : PySem.W.exmOne K (.ref (cls 2)) (.ref (cls 4)) = some true
  xc_2_i : [.ref (cls 2), .ref (cls 3), .type "ValueError"].map (PySem.W.kitOne K (.ref (cls 2))) = [true, false, true].map some
  xc_2_c : ExcC K (cls 2)
  xc_3 : PySem.W.exmOne K (.ref (cls 3)) (.ref (cls 4)) = some true
  xc_3_i : [.ref (cls 2), .ref (cls 3), .type "ValueError"].map (PySem.W.kitOne K (.ref (cls 3))) = [false, true, true].map some
  xc_3_c : ExcC K (cls 3)
  b_ValueError : mg "ValueError" = none
  g_reduce_one : mg "reduce_one" = some (.ref a_reduce_one)
  g_TableError : mg "TableError" = some (.ref (cls 4))
  f__law_refusal : ∃ fd, FunD K "_law_refusal" "_law_refusal" (defArgs (top 55)) (defBody (top 55)) (defScope (top 55)) [] [] a__law_refusal fd
  g__law_refusal : mg "_law_refusal" = some (.ref a__law_refusal)
  f__law_refuses : ∃ fd, FunD K "_law_refuses" "_law_refuses" (defArgs (top 56)) (defBody (top 56)) (defScope (top 56)) [] [] a__law_refuses fd
  g__law_menu : mg "_law_menu" = some (.ref a__law_menu)
  g__law_poly : mg "_law_poly" = some (.ref a__law_poly)
  g__law_refuses : mg "_law_refuses" = some (.ref a__law_refuses)
  g__law_matrix : mg "_law_matrix" = some (.ref a__law_matrix)
  g__law_value_stays : mg "_law_value_stays" = some (.ref a__law_value_stays)
  g__law_nothing : mg "_law_nothing" = some (.ref a__law_nothing)
  g__law_equal : mg "_law_equal" = some (.ref a__law_equal)
  me_1___len__ : Meth K (cls 1) "__len__" a_Poly___len__
  g__law_rows : mg "_law_rows" = some (.ref a__law_rows)
  g__law_same_poly : mg "_law_same_poly" = some (.ref a__law_same_poly)
  f_law : ∃ fd, FunD K "law" "law" (defArgs (top 57)) (defBody (top 57)) (defScope (top 57)) [] [] a_law fd
section
variable {P : Program} {w : World} {K : PySem.W.Frag} {mg : Str → Option Value} {base : Heap} {cls : Nat → Addr}
theorem catch__law_refusal (E : Ev K mg cls) (c : Nat) (bs : List Bool) (h : hand__law_refusal c = some bs) : PySem.W.exmOne K (.ref (cls c)) (.ref (cls 4)) = some true ∧ [.ref (cls 2), .ref (cls 3), .type "ValueError"].map (PySem.W.kitOne K (.ref (cls c))) = bs.map some := by
  unfold hand__law_refusal at h
  split at h
  · cases h; exact ⟨E.xc_2, E.xc_2_i⟩
  · cases h; exact ⟨E.xc_3, E.xc_3_i⟩
  · cases h
theorem excC__law_refusal (E : Ev K mg cls) {c : Nat} (h : (hand__law_refusal c).isSome = true) : ExcC K (cls c) := by
  unfold hand__law_refusal at h
  split at h
  · exact E.xc_2_c
  · exact E.xc_3_c
  · cases h
theorem sc_Ratio___init___1 : FnScope ["self", "num", "den", "divisor"] ["self", "num", "den"] (defScope (inC (top 12) 0)) := ⟨rfl, rfl, rfl, by decide +kernel, rfl, by decide +kernel, by decide +kernel⟩
theorem ok_Ratio___init___1 (E : Ev K mg cls) : DOk P w K mg base CX0 1 E.a_Ratio___init__ ["self", "num", "den"] [V.int 1] (spI ⟨P, w, K, cls⟩ 0 3 m_Ratio___init___1) := by
  have nd := sc_Ratio___init___1.nd
  refine dok_ID (dvs := [V.int 1]) 2 0 E.f_Ratio___init__ sc_Ratio___init___1 (by decide) (by simp) rfl (fun _ _ _ _ _ _ _ us its hl hm => match us, hl, its, hm with | [_, _], _, [_], _ => ⟨_, rfl, rfl⟩) fun cdv A outer s0 H EX B hr => ?_
  exact (r_scons (r_if (r_cmpT (c_eq hr.units) (r_var (pv 2)) r_int) (r_sone r_no) r_snil) (r_scons (r_set (g := fun {_} h => ps_set (i := 3) nd rfl (by first | exact Or.inl rfl | exact Or.inr rfl) h) (r_gcd (by rfl) E.g_gcd (r_acons (r_var (pv 1)) (r_acons (r_var (pv 2)) r_anil)))) (r_scons (r_if (r_cmpT (c_lt) (r_var (pv 2)) r_int) (r_sone (r_set (g := fun {_} h => ps_set (i := 3) nd rfl (by first | exact Or.inl rfl | exact Or.inr rfl) h) (r_neg (r_var (pv 3))))) r_snil) (r_scons (r_self E.c_0 E.na_0_num (pv 0) (r_fdiv (r_var (pv 1)) (r_var (pv 3)))) (r_sone (r_self E.c_0 E.na_0_den (pv 0) (r_fdiv (r_var (pv 2)) (r_var (pv 3)))))))))
theorem sc_Ratio___init___2 : FnScope ["self", "num", "den", "divisor"] ["self", "num", "den"] (defScope (inC (top 12) 0)) := ⟨rfl, rfl, rfl, by decide +kernel, rfl, by decide +kernel, by decide +kernel⟩
theorem ok_Ratio___init___2 (E : Ev K mg cls) : DOk P w K mg base CX0 1 E.a_Ratio___init__ ["self", "num", "den"] [] (spI ⟨P, w, K, cls⟩ 0 3 m_Ratio___init___2) := by
  have nd := sc_Ratio___init___2.nd
  refine dok_ID (dvs := [V.int 1]) 3 1 E.f_Ratio___init__ sc_Ratio___init___2 (by decide) (by simp) rfl (fun _ _ _ _ _ _ _ us its hl hm => match us, hl, its, hm with | [_, _, _], _, [_], _ => ⟨_, rfl, rfl⟩) fun cdv A outer s0 H EX B hr => ?_
  exact (r_scons (r_if (r_cmpT (c_eq hr.units) (r_var (pv 2)) r_int) (r_sone r_no) r_snil) (r_scons (r_set (g := fun {_} h => ps_set (i := 3) nd rfl (by first | exact Or.inl rfl | exact Or.inr rfl) h) (r_gcd (by rfl) E.g_gcd (r_acons (r_var (pv 1)) (r_acons (r_var (pv 2)) r_anil)))) (r_scons (r_if (r_cmpT (c_lt) (r_var (pv 2)) r_int) (r_sone (r_set (g := fun {_} h => ps_set (i := 3) nd rfl (by first | exact Or.inl rfl | exact Or.inr rfl) h) (r_neg (r_var (pv 3))))) r_snil) (r_scons (r_self E.c_0 E.na_0_num (pv 0) (r_fdiv (r_var (pv 1)) (r_var (pv 3)))) (r_sone (r_self E.c_0 E.na_0_den (pv 0) (r_fdiv (r_var (pv 2)) (r_var (pv 3)))))))))
theorem sc_Ratio___add__ : FnScope ["self", "other"] ["self", "other"] (defScope (inC (top 12) 2)) := ⟨rfl, rfl, rfl, by decide +kernel, rfl, by decide +kernel, by decide +kernel⟩
theorem ok_Ratio___add__ (E : Ev K mg cls) : DOk P w K mg base CX0 3 E.a_Ratio___add__ ["self", "other"] [] (spD ⟨P, w, K, cls⟩ 2 m_Ratio___add__) := by
  have nd := sc_Ratio___add__.nd
  refine dok_D E.f_Ratio___add__ sc_Ratio___add__ (fun _ _ _ _ _ _ us hl => match us, hl with | [_, _], _ => rfl) fun cdv A outer s0 H EX B hr => ?_
  exact (r_scons (r_if (r_tnot (r_tval (r_isO E.is_0 (by rfl) E.b_isinstance (by rfl) E.g_Ratio (r_var (pv 1))))) (r_sone r_no) r_snil) (r_sone (r_ret (r_od (r_makeK (ok_Ratio___init___2 E) E.mk_0 (hr.mono (by decide)) (by rfl) E.g_Ratio (fun _ => IsL.nil) pass0 (r_acons (r_add (r_mul (r_fld E.c_0 E.na_0_num (r_dp (r_var (pv 0)))) (r_fld E.c_0 E.na_0_den (r_dp (r_var (pv 1))))) (r_mul (r_fld E.c_0 E.na_0_num (r_dp (r_var (pv 1)))) (r_fld E.c_0 E.na_0_den (r_dp (r_var (pv 0)))))) (r_acons (r_mul (r_fld E.c_0 E.na_0_den (r_dp (r_var (pv 0)))) (r_fld E.c_0 E.na_0_den (r_dp (r_var (pv 1))))) r_anil)))))))
theorem sc_Ratio___sub__ : FnScope ["self", "other"] ["self", "other"] (defScope (inC (top 12) 3)) := ⟨rfl, rfl, rfl, by decide +kernel, rfl, by decide +kernel, by decide +kernel⟩
theorem ok_Ratio___sub__ (E : Ev K mg cls) : DOk P w K mg base CX0 3 E.a_Ratio___sub__ ["self", "other"] [] (spD ⟨P, w, K, cls⟩ 2 m_Ratio___sub__) := by
  have nd := sc_Ratio___sub__.nd
  refine dok_D E.f_Ratio___sub__ sc_Ratio___sub__ (fun _ _ _ _ _ _ us hl => match us, hl with | [_, _], _ => rfl) fun cdv A outer s0 H EX B hr => ?_
  exact (r_scons (r_if (r_tnot (r_tval (r_isO E.is_0 (by rfl) E.b_isinstance (by rfl) E.g_Ratio (r_var (pv 1))))) (r_sone r_no) r_snil) (r_sone (r_ret (r_od (r_makeK (ok_Ratio___init___2 E) E.mk_0 (hr.mono (by decide)) (by rfl) E.g_Ratio (fun _ => IsL.nil) pass0 (r_acons (r_sub (r_mul (r_fld E.c_0 E.na_0_num (r_dp (r_var (pv 0)))) (r_fld E.c_0 E.na_0_den (r_dp (r_var (pv 1))))) (r_mul (r_fld E.c_0 E.na_0_num (r_dp (r_var (pv 1)))) (r_fld E.c_0 E.na_0_den (r_dp (r_var (pv 0)))))) (r_acons (r_mul (r_fld E.c_0 E.na_0_den (r_dp (r_var (pv 0)))) (r_fld E.c_0 E.na_0_den (r_dp (r_var (pv 1))))) r_anil)))))))
theorem sc_Ratio___mul__ : FnScope ["self", "other"] ["self", "other"] (defScope (inC (top 12) 4)) := ⟨rfl, rfl, rfl, by decide +kernel, rfl, by decide +kernel, by decide +kernel⟩
theorem ok_Ratio___mul__ (E : Ev K mg cls) : DOk P w K mg base CX0 3 E.a_Ratio___mul__ ["self", "other"] [] (spD ⟨P, w, K, cls⟩ 2 m_Ratio___mul__) := by
  have nd := sc_Ratio___mul__.nd
  refine dok_D E.f_Ratio___mul__ sc_Ratio___mul__ (fun _ _ _ _ _ _ us hl => match us, hl with | [_, _], _ => rfl) fun cdv A outer s0 H EX B hr => ?_
  exact (r_scons (r_if (r_tnot (r_tval (r_isO E.is_0 (by rfl) E.b_isinstance (by rfl) E.g_Ratio (r_var (pv 1))))) (r_sone r_no) r_snil) (r_sone (r_ret (r_od (r_makeK (ok_Ratio___init___2 E) E.mk_0 (hr.mono (by decide)) (by rfl) E.g_Ratio (fun _ => IsL.nil) pass0 (r_acons (r_mul (r_fld E.c_0 E.na_0_num (r_dp (r_var (pv 0)))) (r_fld E.c_0 E.na_0_num (r_dp (r_var (pv 1))))) (r_acons (r_mul (r_fld E.c_0 E.na_0_den (r_dp (r_var (pv 0)))) (r_fld E.c_0 E.na_0_den (r_dp (r_var (pv 1))))) r_anil)))))))
theorem sc_Ratio___neg__ : FnScope ["self"] ["self"] (defScope (inC (top 12) 6)) := ⟨rfl, rfl, rfl, by decide +kernel, rfl, by decide +kernel, by decide +kernel⟩
theorem ok_Ratio___neg__ (E : Ev K mg cls) : DOk P w K mg base CX0 3 E.a_Ratio___neg__ ["self"] [] (spD ⟨P, w, K, cls⟩ 1 m_Ratio___neg__) := by
  have nd := sc_Ratio___neg__.nd
  refine dok_D E.f_Ratio___neg__ sc_Ratio___neg__ (fun _ _ _ _ _ _ us hl => match us, hl with | [_], _ => rfl) fun cdv A outer s0 H EX B hr => ?_
  exact (r_sone (r_ret (r_od (r_makeK (ok_Ratio___init___2 E) E.mk_0 (hr.mono (by decide)) (by rfl) E.g_Ratio (fun _ => IsL.nil) pass0 (r_acons (r_neg (r_fld E.c_0 E.na_0_num (r_dp (r_var (pv 0))))) (r_acons (r_fld E.c_0 E.na_0_den (r_dp (r_var (pv 0)))) r_anil))))))
theorem sc_Ratio___bool__ : FnScope ["self"] ["self"] (defScope (inC (top 12) 8)) := ⟨rfl, rfl, rfl, by decide +kernel, rfl, by decide +kernel, by decide +kernel⟩
theorem ok_Ratio___bool__ (E : Ev K mg cls) : DOk P w K mg base CX0 1 E.a_Ratio___bool__ ["self"] [] (spD ⟨P, w, K, cls⟩ 1 m_Ratio___bool__) := by
  have nd := sc_Ratio___bool__.nd
  refine dok_D E.f_Ratio___bool__ sc_Ratio___bool__ (fun _ _ _ _ _ _ us hl => match us, hl with | [_], _ => rfl) fun cdv A outer s0 H EX B hr => ?_
  exact (r_sone (r_ret (r_bool1 (by rfl) E.b_bool (r_dp (r_fld E.c_0 E.na_0_num (r_dp (r_var (pv 0))))))))
theorem sc_check_size : FnScope ["size"] ["size"] (defScope (top 16)) := ⟨rfl, rfl, rfl, by decide +kernel, rfl, by decide +kernel, by decide +kernel⟩
theorem ok_check_size (E : Ev K mg cls) : DOk P w K mg base (L2.CX P w) 1 E.a_check_size ["size"] [] (spX ⟨P, w, K, cls⟩ 1 m_check_size) := by
  have nd := sc_check_size.nd
  refine dok_X E.f_check_size sc_check_size (fun _ _ _ _ _ _ us hl => match us, hl with | [_], _ => rfl) fun cdv A outer s0 H EX B hr => ?_
  exact (r_sone (r_if (r_niT (r_var (pv 0)) (r_gtup (is := [1, 2, 3]) (by rfl) E.t_SIZES_g E.t_SIZES_s)) (r_sone (r_raise (by rfl) (by exact takes_of (by rfl) (by rfl) (by rfl) (by rfl)) PySem.F.excBase_ValueError E.ex_2 E.g_WrongSize E.ex_2_k E.ex_2_s E.ex_2_t (by rfl))) r_snil))
theorem sc_least_rotation : FnScope ["word", "at"] ["word"] (defScope (top 18)) := ⟨rfl, rfl, rfl, by decide +kernel, rfl, by decide +kernel, by decide +kernel⟩
theorem ok_least_rotation (E : Ev K mg cls) : DOk P w K mg base CX0 1 E.a_least_rotation ["word"] [] (spD ⟨P, w, K, cls⟩ 1 m_least_rotation) := by
  have nd := sc_least_rotation.nd
  refine dok_D E.f_least_rotation sc_least_rotation (fun _ _ _ _ _ _ us hl => match us, hl with | [_], _ => rfl) fun cdv A outer s0 H EX B hr => ?_
  exact (r_sone (r_ret (r_minT (by rfl) hr.units (by rfl) E.b_min (r_dp (r_od (r_lc (by rfl) nd (r_range1 (by rfl) E.b_range (r_acons (r_len (by rfl) E.b_len (r_dp (r_var (pv 0)))) r_anil)) (blkOk_by (own := [("at", 1)]) (by kernel_rfl)) (by decide) (fun _ _ _ _ _ => (r_tgn (pg_name nd rfl (by first | exact Or.inl rfl | exact Or.inr rfl)))) (fun _ _ _ _ _ => r_ifs0) (fun _ _ _ _ _ => (r_add (r_sl (r_var (pv 0)) (r_p1 (r_var (pv 1))) r_p0) (r_sl (r_var (pv 0)) r_p0 (r_p1 (r_var (pv 1))))))))) r_str)))
theorem sc_term_key : FnScope ["cycles", "word", "cycle"] ["cycles", "word"] (defScope (top 19)) := ⟨rfl, rfl, rfl, by decide +kernel, rfl, by decide +kernel, by decide +kernel⟩
theorem ok_term_key (E : Ev K mg cls) : DOk P w K mg base CX0 2 E.a_term_key ["cycles", "word"] [] (spD ⟨P, w, K, cls⟩ 2 m_term_key) := by
  have nd := sc_term_key.nd
  refine dok_D E.f_term_key sc_term_key (fun _ _ _ _ _ _ us hl => match us, hl with | [_, _], _ => rfl) fun cdv A outer s0 H EX B hr => ?_
  exact (r_sone (r_ret (r_tup (r_acons (r_tuple (by rfl) E.b_tuple (r_dp (r_od (r_sorted (by rfl) hr.units (by rfl) E.b_sorted (r_dp (r_od (r_lc (by rfl) nd (r_iter (r_var (pv 0))) (blkOk_by (own := [("cycle", 2)]) (by kernel_rfl)) (by decide) (fun _ _ _ _ _ => (r_tgn (pg_name nd rfl (by first | exact Or.inl rfl | exact Or.inr rfl)))) (fun _ _ _ _ _ => r_ifs0) (fun _ _ _ _ _ => (r_callK (ok_least_rotation E) (hr.mono (by decide)) (by rfl) E.g_least_rotation pass0 (r_acons (r_var (pv 2)) r_anil)))))))))) (r_acons (r_var (pv 1)) r_anil)))))
theorem sc_content_of : FnScope ["key"] ["key"] (defScope (top 20)) := ⟨rfl, rfl, rfl, by decide +kernel, rfl, by decide +kernel, by decide +kernel⟩
theorem ok_content_of (E : Ev K mg cls) : DOk P w K mg base CX0 1 E.a_content_of ["key"] [] (spD ⟨P, w, K, cls⟩ 1 m_content_of) := by
  have nd := sc_content_of.nd
  refine dok_D E.f_content_of sc_content_of (fun _ _ _ _ _ _ us hl => match us, hl with | [_], _ => rfl) fun cdv A outer s0 H EX B hr => ?_
  exact (r_sone (r_ret (r_join r_str (r_dp (r_od (r_sorted (by rfl) hr.units (by rfl) E.b_sorted (r_dp (r_add (r_join r_str (r_dp (r_ix (r_var (pv 0)) r_int))) (r_ix (r_var (pv 0)) r_int)))))))))
theorem sc_Poly___init__ : FnScope ["self", "kind", "terms", "sums", "cycles", "word", "ratio", "key"] ["self", "kind", "terms"] (defScope (inC (top 22) 0)) := ⟨rfl, rfl, rfl, by decide +kernel, rfl, by decide +kernel, by decide +kernel⟩
theorem ok_Poly___init__ (E : Ev K mg cls) : DOk P w K mg base CX0 4 E.a_Poly___init__ ["self", "kind", "terms"] [] (spI ⟨P, w, K, cls⟩ 1 3 m_Poly___init__) := by
  have nd := sc_Poly___init__.nd
  refine dok_I E.f_Poly___init__ sc_Poly___init__ (by decide) (fun _ _ _ _ _ _ us hl => match us, hl with | [_, _, _], _ => rfl) fun cdv A outer s0 H EX B hr => ?_
  exact (r_scons (r_setO (g := fun {_} h => ps_set (i := 3) nd rfl (by first | exact Or.inl rfl | exact Or.inr rfl) h) r_dnew) (r_scons (r_for PassesOwn.never (by rfl) (r_iter (r_var (pv 2))) (r_tgt (by rfl) (r_tgcons (pg_name nd rfl (by first | exact Or.inl rfl | exact Or.inr rfl)) (r_tgcons (pg_name nd rfl (by first | exact Or.inl rfl | exact Or.inr rfl)) (r_tgcons (pg_name nd rfl (by first | exact Or.inl rfl | exact Or.inr rfl)) r_tgnil))) (by rfl)) (r_scons (r_if (r_tw (r_tand (r_cmpT (c_eq hr.units) (r_var (pv 1)) r_str) (r_tand1 (r_cmpT (c_ne hr.units) (r_var (pv 5)) r_str)))) (r_sone r_no) r_snil) (r_scons (r_set (g := fun {_} h => ps_set (i := 7) nd rfl (by first | exact Or.inl rfl | exact Or.inr rfl) h) (r_callK (ok_term_key E) (hr.mono (by decide)) (by rfl) E.g_term_key pass0 (r_acons (r_var (pv 4)) (r_acons (r_var (pv 5)) r_anil)))) (r_sone (r_dput hr.units (pv 3) (r_var (pv 7)) (r_ifE (r_tpc (pc_din' hr.units (r_var (pv 7)) (r_pk (pv 3)))) (r_ownK (ok_Ratio___add__ E) E.me_0___add__ E.sf_0 (hr.mono (by decide)) pass0 (r_dget hr.units (r_pk (pv 3)) (r_var (pv 7)) (by intro _ _; rfl)) (r_var (pv 6))) (r_var (pv 6))) (by rfl)))))) (r_scons (r_self E.c_1 E.na_1_kind (pv 0) (r_var (pv 1))) (r_scons (r_self E.c_1 E.na_1_coefficients (pv 0) (r_od (r_dc hr.units (by rfl) nd (r_iter (r_od (r_sorted (by rfl) hr.units (by rfl) E.b_sorted (r_pk (pv 3))))) (blkOk_by (own := [("key", 7)]) (by kernel_rfl)) (by decide) (fun _ _ _ _ _ => (r_tgn (pg_name nd rfl (by first | exact Or.inl rfl | exact Or.inr rfl)))) (fun _ _ _ _ _ => (r_ifs1 (r_truOK (ok_Ratio___bool__ E) E.me_0___bool__ (hr.mono (by decide)) pass0 (r_dget hr.units (r_pk (pv 3)) (r_var (pv 7)) (by intro _ _; rfl))))) (fun _ _ _ _ _ => (r_var (pv 7))) (fun _ _ _ _ _ => (r_dget hr.units (r_pk (pv 3)) (r_var (pv 7)) (by intro _ _; rfl)))))) (r_sone (r_self E.c_1 E.na_1_terms (pv 0) (r_tupleD (by rfl) (by rfl) E.b_tuple (r_dp (r_fld E.c_1 E.na_1_coefficients (r_pk (pv 0)))))))))))
theorem sc_poly_of : FnScope ["kind", "sums", "poly", "key"] ["kind", "sums"] (defScope (top 23)) := ⟨rfl, rfl, rfl, by decide +kernel, rfl, by decide +kernel, by decide +kernel⟩
theorem ok_poly_of (E : Ev K mg cls) : DOk P w K mg base CX0 6 E.a_poly_of ["kind", "sums"] [] (spD ⟨P, w, K, cls⟩ 2 m_poly_of) := by
  have nd := sc_poly_of.nd
  refine dok_D E.f_poly_of sc_poly_of (fun _ _ _ _ _ _ us hl => match us, hl with | [_, _], _ => rfl) fun cdv A outer s0 H EX B hr => ?_
  exact (r_scons (r_setO (g := fun {_} h => ps_set (i := 2) nd rfl (by first | exact Or.inl rfl | exact Or.inr rfl) h) (r_makeK (ok_Poly___init__ E) E.mk_1 (hr.mono (by decide)) (by rfl) E.g_Poly (fun _ => IsL.nil) pass0 (r_acons (r_var (pv 0)) (r_acons (r_od (r_lst r_anil)) r_anil)))) (r_scons (r_self E.c_1 E.na_1_coefficients (pv 2) (r_od (r_dc hr.units (by rfl) nd (r_iter (r_od (r_sorted (by rfl) hr.units (by rfl) E.b_sorted (r_dp (r_var (pv 1)))))) (blkOk_by (own := [("key", 3)]) (by kernel_rfl)) (by decide) (fun _ _ _ _ _ => (r_tgn (pg_name nd rfl (by first | exact Or.inl rfl | exact Or.inr rfl)))) (fun _ _ _ _ _ => (r_ifs1 (r_truOK (ok_Ratio___bool__ E) E.me_0___bool__ (hr.mono (by decide)) pass0 (r_dget hr.units (r_dp (r_var (pv 1))) (r_var (pv 3)) (by intro _ _; rfl))))) (fun _ _ _ _ _ => (r_var (pv 3))) (fun _ _ _ _ _ => (r_dget hr.units (r_dp (r_var (pv 1))) (r_var (pv 3)) (by intro _ _; rfl)))))) (r_scons (r_self E.c_1 E.na_1_terms (pv 2) (r_tupleD (by rfl) (by rfl) E.b_tuple (r_dp (r_fld E.c_1 E.na_1_coefficients (r_pk (pv 2)))))) (r_sone (r_frz (i := 2) (r_ret (r_var (pv 2))))))))
theorem sc_same_kind : FnScope ["first", "second"] ["first", "second"] (defScope (top 24)) := ⟨rfl, rfl, rfl, by decide +kernel, rfl, by decide +kernel, by decide +kernel⟩
theorem ok_same_kind (E : Ev K mg cls) : DOk P w K mg base CX0 1 E.a_same_kind ["first", "second"] [] (spD ⟨P, w, K, cls⟩ 2 m_same_kind) := by
  have nd := sc_same_kind.nd
  refine dok_D E.f_same_kind sc_same_kind (fun _ _ _ _ _ _ us hl => match us, hl with | [_, _], _ => rfl) fun cdv A outer s0 H EX B hr => ?_
  exact (r_sone (r_if (r_cmpT (c_ne hr.units) (r_fld E.c_1 E.na_1_kind (r_dp (r_var (pv 0)))) (r_fld E.c_1 E.na_1_kind (r_dp (r_var (pv 1))))) (r_sone r_no) r_snil))
theorem sc_Poly_constant : FnScope ["kind", "ratio"] ["kind", "ratio"] (defScope (inC (top 22) 2)) := ⟨rfl, rfl, rfl, by decide +kernel, rfl, by decide +kernel, by decide +kernel⟩
theorem ok_Poly_constant (E : Ev K mg cls) : DOk P w K mg base CX0 6 E.a_Poly_constant ["kind", "ratio"] [] (spD ⟨P, w, K, cls⟩ 2 m_Poly_constant) := by
  have nd := sc_Poly_constant.nd
  refine dok_D E.f_Poly_constant sc_Poly_constant (fun _ _ _ _ _ _ us hl => match us, hl with | [_, _], _ => rfl) fun cdv A outer s0 H EX B hr => ?_
  exact (r_sone (r_ret (r_od (r_makeK (ok_Poly___init__ E) E.mk_1 (hr.mono (by decide)) (by rfl) E.g_Poly (fun _ => IsL.nil) pass0 (r_acons (r_var (pv 0)) (r_acons (r_od (r_lst (r_acons (r_tup (r_acons (r_od (r_lst r_anil)) (r_acons r_str (r_acons (r_var (pv 1)) r_anil)))) r_anil))) r_anil))))))
theorem sc_Poly_degree : FnScope ["self", "key"] ["self"] (defScope (inC (top 22) 3)) := ⟨rfl, rfl, rfl, by decide +kernel, rfl, by decide +kernel, by decide +kernel⟩
theorem ok_Poly_degree (E : Ev K mg cls) : DOk P w K mg base CX0 2 E.a_Poly_degree ["self"] [] (spD ⟨P, w, K, cls⟩ 1 m_Poly_degree) := by
  have nd := sc_Poly_degree.nd
  refine dok_D E.f_Poly_degree sc_Poly_degree (fun _ _ _ _ _ _ us hl => match us, hl with | [_], _ => rfl) fun cdv A outer s0 H EX B hr => ?_
  exact (r_sone (r_ret (r_maxT (by rfl) hr.units (by rfl) E.b_max (r_dp (r_od (r_lc (by rfl) nd (r_iter (r_fld E.c_1 E.na_1_terms (r_dp (r_var (pv 0))))) (blkOk_by (own := [("key", 1)]) (by kernel_rfl)) (by decide) (fun _ _ _ _ _ => (r_tgn (pg_name nd rfl (by first | exact Or.inl rfl | exact Or.inr rfl)))) (fun _ _ _ _ _ => r_ifs0) (fun _ _ _ _ _ => (r_len (by rfl) E.b_len (r_dp (r_callK (ok_content_of E) (hr.mono (by decide)) (by rfl) E.g_content_of pass0 (r_acons (r_var (pv 1)) r_anil)))))))) r_int)))
theorem sc_Poly___add__ : FnScope ["self", "other", "sums", "key", "ratio"] ["self", "other"] (defScope (inC (top 22) 4)) := ⟨rfl, rfl, rfl, by decide +kernel, rfl, by decide +kernel, by decide +kernel⟩
theorem ok_Poly___add__ (E : Ev K mg cls) : DOk P w K mg base CX0 7 E.a_Poly___add__ ["self", "other"] [] (spD ⟨P, w, K, cls⟩ 2 m_Poly___add__) := by
  have nd := sc_Poly___add__.nd
  refine dok_D E.f_Poly___add__ sc_Poly___add__ (fun _ _ _ _ _ _ us hl => match us, hl with | [_, _], _ => rfl) fun cdv A outer s0 H EX B hr => ?_
  exact (r_scons (r_if (r_tnot (r_tval (r_isO E.is_1 (by rfl) E.b_isinstance (by rfl) E.g_Poly (r_var (pv 1))))) (r_sone r_no) r_snil) (r_scons (r_expr (r_callK (ok_same_kind E) (hr.mono (by decide)) (by rfl) E.g_same_kind pass0 (r_acons (r_var (pv 0)) (r_acons (r_var (pv 1)) r_anil)))) (r_scons (r_setDc (i := 2) hr.units (by rfl) nd (by rfl) (by rfl) (sw_trueD (by rfl) (by rfl) (by rfl) (by decide +kernel)) (r_iter (r_fld E.c_1 E.na_1_terms (r_dp (r_var (pv 0))))) (blkOk_by (own := [("key", 3)]) (by kernel_rfl)) (by decide) (fun _ _ _ _ _ => (r_tgn (pg_name nd rfl (by first | exact Or.inl rfl | exact Or.inr rfl)))) (fun _ _ _ _ _ => r_ifs0) (fun _ _ _ _ _ => (r_var (pv 3))) (fun _ _ _ _ _ => (r_dget hr.units (r_dp (r_fld E.c_1 E.na_1_coefficients (r_dp (r_var (pv 0))))) (r_var (pv 3)) (by intro _ _; rfl)))) (r_scons (r_for PassesOwn.never (by rfl) (r_iter (r_fld E.c_1 E.na_1_terms (r_dp (r_var (pv 1))))) (r_tgn (pg_name nd rfl (by first | exact Or.inl rfl | exact Or.inr rfl))) (r_scons (r_set (g := fun {_} h => ps_set (i := 4) nd rfl (by first | exact Or.inl rfl | exact Or.inr rfl) h) (r_dget hr.units (r_dp (r_fld E.c_1 E.na_1_coefficients (r_dp (r_var (pv 1))))) (r_var (pv 3)) (by intro _ _; rfl))) (r_sone (r_dput hr.units (pv 2) (r_var (pv 3)) (r_ifE (r_tpc (pc_din' hr.units (r_var (pv 3)) (r_pk (pv 2)))) (r_ownK (ok_Ratio___add__ E) E.me_0___add__ E.sf_0 (hr.mono (by decide)) pass0 (r_dget hr.units (r_pk (pv 2)) (r_var (pv 3)) (by intro _ _; rfl)) (r_var (pv 4))) (r_var (pv 4))) (by rfl))))) (r_sone (r_frz (i := 2) (r_ret (r_callK (ok_poly_of E) (hr.mono (by decide)) (by rfl) E.g_poly_of pass0 (r_acons (r_fld E.c_1 E.na_1_kind (r_dp (r_var (pv 0)))) (r_acons (r_var (pv 2)) r_anil))))))))))
theorem sc_Poly_scaled : FnScope ["self", "ratio", "key"] ["self", "ratio"] (defScope (inC (top 22) 13)) := ⟨rfl, rfl, rfl, by decide +kernel, rfl, by decide +kernel, by decide +kernel⟩
theorem ok_Poly_scaled (E : Ev K mg cls) : DOk P w K mg base CX0 7 E.a_Poly_scaled ["self", "ratio"] [] (spD ⟨P, w, K, cls⟩ 2 m_Poly_scaled) := by
  have nd := sc_Poly_scaled.nd
  refine dok_D E.f_Poly_scaled sc_Poly_scaled (fun _ _ _ _ _ _ us hl => match us, hl with | [_, _], _ => rfl) fun cdv A outer s0 H EX B hr => ?_
  exact (r_sone (r_ret (r_callK (ok_poly_of E) (hr.mono (by decide)) (by rfl) E.g_poly_of pass0 (r_acons (r_fld E.c_1 E.na_1_kind (r_dp (r_var (pv 0)))) (r_acons (r_od (r_dc hr.units (by rfl) nd (r_iter (r_fld E.c_1 E.na_1_terms (r_dp (r_var (pv 0))))) (blkOk_by (own := [("key", 2)]) (by kernel_rfl)) (by decide) (fun _ _ _ _ _ => (r_tgn (pg_name nd rfl (by first | exact Or.inl rfl | exact Or.inr rfl)))) (fun _ _ _ _ _ => r_ifs0) (fun _ _ _ _ _ => (r_var (pv 2))) (fun _ _ _ _ _ => (r_ownK (ok_Ratio___mul__ E) E.me_0___mul__ E.sf_0 (hr.mono (by decide)) pass0 (r_var (pv 1)) (r_dget hr.units (r_dp (r_fld E.c_1 E.na_1_coefficients (r_dp (r_var (pv 0))))) (r_var (pv 2)) (by intro _ _; rfl)))))) r_anil)))))
theorem sc_Poly___neg__ : FnScope ["self"] ["self"] (defScope (inC (top 22) 7)) := ⟨rfl, rfl, rfl, by decide +kernel, rfl, by decide +kernel, by decide +kernel⟩
theorem ok_Poly___neg__ (E : Ev K mg cls) : DOk P w K mg base CX0 8 E.a_Poly___neg__ ["self"] [] (spD ⟨P, w, K, cls⟩ 1 m_Poly___neg__) := by
  have nd := sc_Poly___neg__.nd
  refine dok_D E.f_Poly___neg__ sc_Poly___neg__ (fun _ _ _ _ _ _ us hl => match us, hl with | [_], _ => rfl) fun cdv A outer s0 H EX B hr => ?_
  exact (r_sone (r_ret (r_methK (ok_Poly_scaled E) E.c_1 E.me_1_scaled (hr.mono (by decide)) pass0 (r_var (pv 0)) (r_acons (r_od (r_makeK (ok_Ratio___init___1 E) E.mk_0 (hr.mono (by decide)) (by rfl) E.g_Ratio (fun _ => IsL.cons (by simp only [Is]) IsL.nil) pass0 (r_acons (r_neg r_int) r_anil))) r_anil))))
theorem sc_Poly___sub__ : FnScope ["self", "other"] ["self", "other"] (defScope (inC (top 22) 5)) := ⟨rfl, rfl, rfl, by decide +kernel, rfl, by decide +kernel, by decide +kernel⟩
theorem ok_Poly___sub__ (E : Ev K mg cls) : DOk P w K mg base CX0 9 E.a_Poly___sub__ ["self", "other"] [] (spD ⟨P, w, K, cls⟩ 2 m_Poly___sub__) := by
  have nd := sc_Poly___sub__.nd
  refine dok_D E.f_Poly___sub__ sc_Poly___sub__ (fun _ _ _ _ _ _ us hl => match us, hl with | [_, _], _ => rfl) fun cdv A outer s0 H EX B hr => ?_
  exact (r_scons (r_if (r_tnot (r_tval (r_isO E.is_1 (by rfl) E.b_isinstance (by rfl) E.g_Poly (r_var (pv 1))))) (r_sone r_no) r_snil) (r_sone (r_ret (r_ownK (ok_Poly___add__ E) E.me_1___add__ E.sf_1 (hr.mono (by decide)) pass0 (r_var (pv 0)) (r_negOK (ok_Poly___neg__ E) E.me_1___neg__ (hr.mono (by decide)) pass0 (r_var (pv 1)))))))
theorem sc_Poly___mul__ : FnScope ["self", "other", "products", "key", "more", "joined", "ratio"] ["self", "other"] (defScope (inC (top 22) 6)) := ⟨rfl, rfl, rfl, by decide +kernel, rfl, by decide +kernel, by decide +kernel⟩
theorem ok_Poly___mul__ (E : Ev K mg cls) : DOk P w K mg base CX0 7 E.a_Poly___mul__ ["self", "other"] [] (spD ⟨P, w, K, cls⟩ 2 m_Poly___mul__) := by
  have nd := sc_Poly___mul__.nd
  refine dok_D E.f_Poly___mul__ sc_Poly___mul__ (fun _ _ _ _ _ _ us hl => match us, hl with | [_, _], _ => rfl) fun cdv A outer s0 H EX B hr => ?_
  exact (r_scons (r_if (r_tnot (r_tval (r_isO E.is_1 (by rfl) E.b_isinstance (by rfl) E.g_Poly (r_var (pv 1))))) (r_sone r_no) r_snil) (r_scons (r_setO (g := fun {_} h => ps_set (i := 2) nd rfl (by first | exact Or.inl rfl | exact Or.inr rfl) h) r_dnew) (r_scons (r_for PassesOwn.never (by rfl) (r_iter (r_fld E.c_1 E.na_1_terms (r_dp (r_var (pv 0))))) (r_tgn (pg_name nd rfl (by first | exact Or.inl rfl | exact Or.inr rfl))) (r_sone (r_for PassesOwn.never (by rfl) (r_iter (r_fld E.c_1 E.na_1_terms (r_dp (r_var (pv 1))))) (r_tgn (pg_name nd rfl (by first | exact Or.inl rfl | exact Or.inr rfl))) (r_scons (r_set (g := fun {_} h => ps_set (i := 5) nd rfl (by first | exact Or.inl rfl | exact Or.inr rfl) h) (r_tup (r_acons (r_tuple (by rfl) E.b_tuple (r_dp (r_od (r_sorted (by rfl) hr.units (by rfl) E.b_sorted (r_dp (r_add (r_ix (r_var (pv 3)) r_int) (r_ix (r_var (pv 4)) r_int))))))) (r_acons (r_add (r_ix (r_var (pv 3)) r_int) (r_ix (r_var (pv 4)) r_int)) r_anil)))) (r_scons (r_set (g := fun {_} h => ps_set (i := 6) nd rfl (by first | exact Or.inl rfl | exact Or.inr rfl) h) (r_ownK (ok_Ratio___mul__ E) E.me_0___mul__ E.sf_0 (hr.mono (by decide)) pass0 (r_dget hr.units (r_dp (r_fld E.c_1 E.na_1_coefficients (r_dp (r_var (pv 0))))) (r_var (pv 3)) (by intro _ _; rfl)) (r_dget hr.units (r_dp (r_fld E.c_1 E.na_1_coefficients (r_dp (r_var (pv 1))))) (r_var (pv 4)) (by intro _ _; rfl)))) (r_sone (r_dput hr.units (pv 2) (r_var (pv 5)) (r_ifE (r_tpc (pc_din' hr.units (r_var (pv 5)) (r_pk (pv 2)))) (r_ownK (ok_Ratio___add__ E) E.me_0___add__ E.sf_0 (hr.mono (by decide)) pass0 (r_dget hr.units (r_pk (pv 2)) (r_var (pv 5)) (by intro _ _; rfl)) (r_var (pv 6))) (r_var (pv 6))) (by rfl)))))))) (r_scons (r_if (r_cmpT (c_eq hr.units) (r_fld E.c_1 E.na_1_kind (r_dp (r_var (pv 0)))) r_str) (r_sone (r_frz (i := 2) (r_ret (r_callK (ok_poly_of E) (hr.mono (by decide)) (by rfl) E.g_poly_of pass0 (r_acons (r_fld E.c_1 E.na_1_kind (r_dp (r_var (pv 1)))) (r_acons (r_var (pv 2)) r_anil)))))) r_snil) (r_sone (r_frz (i := 2) (r_ret (r_callK (ok_poly_of E) (hr.mono (by decide)) (by rfl) E.g_poly_of pass0 (r_acons r_str (r_acons (r_var (pv 2)) r_anil))))))))))
theorem sc_Poly___len__ : FnScope ["self"] ["self"] (defScope (inC (top 22) 9)) := ⟨rfl, rfl, rfl, by decide +kernel, rfl, by decide +kernel, by decide +kernel⟩
theorem ok_Poly___len__ (E : Ev K mg cls) : DOk P w K mg base CX0 1 E.a_Poly___len__ ["self"] [] (spD ⟨P, w, K, cls⟩ 1 m_Poly___len__) := by
  have nd := sc_Poly___len__.nd
  refine dok_D E.f_Poly___len__ sc_Poly___len__ (fun _ _ _ _ _ _ us hl => match us, hl with | [_], _ => rfl) fun cdv A outer s0 H EX B hr => ?_
  exact (r_sone (r_ret (r_len (by rfl) E.b_len (r_dp (r_fld E.c_1 E.na_1_terms (r_dp (r_var (pv 0))))))))
theorem sc_Poly___getitem__ : FnScope ["self", "key"] ["self", "key"] (defScope (inC (top 22) 12)) := ⟨rfl, rfl, rfl, by decide +kernel, rfl, by decide +kernel, by decide +kernel⟩
theorem ok_Poly___getitem__ (E : Ev K mg cls) : DOk P w K mg base CX0 3 E.a_Poly___getitem__ ["self", "key"] [] (spD ⟨P, w, K, cls⟩ 2 m_Poly___getitem__) := by
  have nd := sc_Poly___getitem__.nd
  refine dok_D E.f_Poly___getitem__ sc_Poly___getitem__ (fun _ _ _ _ _ _ us hl => match us, hl with | [_, _], _ => rfl) fun cdv A outer s0 H EX B hr => ?_
  exact (r_sone (r_ret (r_dgetOr hr.units (r_dp (r_fld E.c_1 E.na_1_coefficients (r_dp (r_var (pv 0))))) (r_var (pv 1)) (r_od (r_makeK (ok_Ratio___init___1 E) E.mk_0 (hr.mono (by decide)) (by rfl) E.g_Ratio (fun _ => IsL.cons (by simp only [Is]) IsL.nil) pass0 (r_acons r_int r_anil))) ⟨by rfl, by rfl, by rfl, by rfl⟩)))
theorem sc_Poly_used_letters : FnScope ["self", "key"] ["self"] (defScope (inC (top 22) 16)) := ⟨rfl, rfl, rfl, by decide +kernel, rfl, by decide +kernel, by decide +kernel⟩
theorem ok_Poly_used_letters (E : Ev K mg cls) : DOk P w K mg base CX0 2 E.a_Poly_used_letters ["self"] [] (spD ⟨P, w, K, cls⟩ 1 m_Poly_used_letters) := by
  have nd := sc_Poly_used_letters.nd
  refine dok_D E.f_Poly_used_letters sc_Poly_used_letters (fun _ _ _ _ _ _ us hl => match us, hl with | [_], _ => rfl) fun cdv A outer s0 H EX B hr => ?_
  exact (r_sone (r_ret (r_join r_str (r_dp (r_od (r_sortSet (by rfl) hr.units (by rfl) E.b_sorted (by rfl) E.b_set (r_join r_str (r_dp (r_od (r_lc (by rfl) nd (r_iter (r_fld E.c_1 E.na_1_terms (r_dp (r_var (pv 0))))) (blkOk_by (own := [("key", 1)]) (by kernel_rfl)) (by decide) (fun _ _ _ _ _ => (r_tgn (pg_name nd rfl (by first | exact Or.inl rfl | exact Or.inr rfl)))) (fun _ _ _ _ _ => r_ifs0) (fun _ _ _ _ _ => (r_callK (ok_content_of E) (hr.mono (by decide)) (by rfl) E.g_content_of pass0 (r_acons (r_var (pv 1)) r_anil)))))))))))))
theorem sc_power_trace : FnScope ["letter", "exponent"] ["letter", "exponent"] (defScope (top 29)) := ⟨rfl, rfl, rfl, by decide +kernel, rfl, by decide +kernel, by decide +kernel⟩
theorem ok_power_trace (E : Ev K mg cls) : DOk P w K mg base CX0 6 E.a_power_trace ["letter", "exponent"] [] (spD ⟨P, w, K, cls⟩ 2 m_power_trace) := by
  have nd := sc_power_trace.nd
  refine dok_D E.f_power_trace sc_power_trace (fun _ _ _ _ _ _ us hl => match us, hl with | [_, _], _ => rfl) fun cdv A outer s0 H EX B hr => ?_
  exact (r_sone (r_ret (r_od (r_makeK (ok_Poly___init__ E) E.mk_1 (hr.mono (by decide)) (by rfl) E.g_Poly (fun _ => IsL.nil) pass0 (r_acons r_str (r_acons (r_od (r_lst (r_acons (r_tup (r_acons (r_tup (r_acons (r_mul (r_var (pv 0)) (r_var (pv 1))) r_anil)) (r_acons r_str (r_acons (r_od (r_makeK (ok_Ratio___init___1 E) E.mk_0 (hr.mono (by decide)) (by rfl) E.g_Ratio (fun _ => IsL.cons (by simp only [Is]) IsL.nil) pass0 (r_acons r_int r_anil))) r_anil)))) r_anil))) r_anil))))))
theorem sc_letter_power : FnScope ["letter", "exponent"] ["letter", "exponent"] (defScope (top 30)) := ⟨rfl, rfl, rfl, by decide +kernel, rfl, by decide +kernel, by decide +kernel⟩
theorem ok_letter_power (E : Ev K mg cls) : DOk P w K mg base CX0 6 E.a_letter_power ["letter", "exponent"] [] (spD ⟨P, w, K, cls⟩ 2 m_letter_power) := by
  have nd := sc_letter_power.nd
  refine dok_D E.f_letter_power sc_letter_power (fun _ _ _ _ _ _ us hl => match us, hl with | [_, _], _ => rfl) fun cdv A outer s0 H EX B hr => ?_
  exact (r_sone (r_ret (r_od (r_makeK (ok_Poly___init__ E) E.mk_1 (hr.mono (by decide)) (by rfl) E.g_Poly (fun _ => IsL.nil) pass0 (r_acons r_str (r_acons (r_od (r_lst (r_acons (r_tup (r_acons (r_tup r_anil) (r_acons (r_mul (r_var (pv 0)) (r_var (pv 1))) (r_acons (r_od (r_makeK (ok_Ratio___init___1 E) E.mk_0 (hr.mono (by decide)) (by rfl) E.g_Ratio (fun _ => IsL.cons (by simp only [Is]) IsL.nil) pass0 (r_acons r_int r_anil))) r_anil)))) r_anil))) r_anil))))))
theorem sc_elementary : FnScope ["degree", "letter", "found", "many", "total", "at", "product"] ["degree", "letter"] (defScope (top 26)) := ⟨rfl, rfl, rfl, by decide +kernel, rfl, by decide +kernel, by decide +kernel⟩
theorem ok_elementary (E : Ev K mg cls) : DOk P w K mg base CX0 10 E.a_elementary ["degree", "letter"] [] (spD ⟨P, w, K, cls⟩ 2 m_elementary) := by
  have nd := sc_elementary.nd
  refine dok_D E.f_elementary sc_elementary (fun _ _ _ _ _ _ us hl => match us, hl with | [_, _], _ => rfl) fun cdv A outer s0 H EX B hr => ?_
  exact (r_scons (r_setO (g := fun {_} h => ps_set (i := 2) nd rfl (by first | exact Or.inl rfl | exact Or.inr rfl) h) (r_lst (r_acons (r_statK (ok_Poly_constant E) E.sm_1_constant (by rfl) E.g_Poly (hr.mono (by decide)) pass0 (r_acons r_str (r_acons (r_od (r_makeK (ok_Ratio___init___1 E) E.mk_0 (hr.mono (by decide)) (by rfl) E.g_Ratio (fun _ => IsL.cons (by simp only [Is]) IsL.nil) pass0 (r_acons r_int r_anil))) r_anil))) r_anil))) (r_scons (r_for PassesOwn.never (by rfl) (r_range2 (by rfl) E.b_range (r_acons r_int (r_acons (r_add (r_var (pv 0)) r_int) r_anil))) (r_tgn (pg_name nd rfl (by first | exact Or.inl rfl | exact Or.inr rfl))) (r_scons (r_set (g := fun {_} h => ps_set (i := 4) nd rfl (by first | exact Or.inl rfl | exact Or.inr rfl) h) (r_od (r_makeK (ok_Poly___init__ E) E.mk_1 (hr.mono (by decide)) (by rfl) E.g_Poly (fun _ => IsL.nil) pass0 (r_acons r_str (r_acons (r_od (r_lst r_anil)) r_anil))))) (r_scons (r_for PassesOwn.never (by rfl) (r_range2 (by rfl) E.b_range (r_acons r_int (r_acons (r_add (r_var (pv 3)) r_int) r_anil))) (r_tgn (pg_name nd rfl (by first | exact Or.inl rfl | exact Or.inr rfl))) (r_scons (r_set (g := fun {_} h => ps_set (i := 6) nd rfl (by first | exact Or.inl rfl | exact Or.inr rfl) h) (r_ownK (ok_Poly___mul__ E) E.me_1___mul__ E.sf_1 (hr.mono (by decide)) pass0 (r_ixO (pv 2) (r_sub (r_var (pv 3)) (r_var (pv 5)))) (r_callK (ok_power_trace E) (hr.mono (by decide)) (by rfl) E.g_power_trace pass0 (r_acons (r_var (pv 1)) (r_acons (r_var (pv 5)) r_anil))))) (r_sone (r_set (g := fun {_} h => ps_set (i := 4) nd rfl (by first | exact Or.inl rfl | exact Or.inr rfl) h) (r_ifE (r_tint (r_and (r_var (pv 5)) r_int)) (r_ownK (ok_Poly___add__ E) E.me_1___add__ E.sf_1 (hr.mono (by decide)) pass0 (r_var (pv 4)) (r_var (pv 6))) (r_ownK (ok_Poly___sub__ E) E.me_1___sub__ E.sf_1 (hr.mono (by decide)) pass0 (r_var (pv 4)) (r_var (pv 6)))))))) (r_sone (r_app (pv 2) (r_methK (ok_Poly_scaled E) E.c_1 E.me_1_scaled (hr.mono (by decide)) pass0 (r_var (pv 4)) (r_acons (r_od (r_makeK (ok_Ratio___init___2 E) E.mk_0 (hr.mono (by decide)) (by rfl) E.g_Ratio (fun _ => IsL.nil) pass0 (r_acons r_int (r_acons (r_var (pv 3)) r_anil)))) r_anil))))))) (r_sone (r_ret (r_ixO (pv 2) (r_neg r_int))))))
theorem sc_only_letter : FnScope ["poly", "letters"] ["poly"] (defScope (top 28)) := ⟨rfl, rfl, rfl, by decide +kernel, rfl, by decide +kernel, by decide +kernel⟩
theorem ok_only_letter (E : Ev K mg cls) : DOk P w K mg base (L2.CX P w) 3 E.a_only_letter ["poly"] [] (spX ⟨P, w, K, cls⟩ 1 m_only_letter) := by
  have nd := sc_only_letter.nd
  refine dok_X E.f_only_letter sc_only_letter (fun _ _ _ _ _ _ us hl => match us, hl with | [_], _ => rfl) fun cdv A outer s0 H EX B hr => ?_
  exact (r_scons (r_set (g := fun {_} h => ps_set (i := 1) nd rfl (by first | exact Or.inl rfl | exact Or.inr rfl) h) (r_meth0K (ok_Poly_used_letters E) E.c_1 E.me_1_used_letters (hr.mono (by decide)) pass0 (r_var (pv 0)))) (r_scons (r_if (r_cmpT (c_gt) (r_len (by rfl) E.b_len (r_dp (r_var (pv 1)))) r_int) (r_sone (r_raise (by rfl) (by exact takes_of (by rfl) (by rfl) (by rfl) (by rfl)) PySem.F.excBase_ValueError E.ex_3 E.g_InvalidPolynomial E.ex_3_k E.ex_3_s E.ex_3_t (by rfl))) r_snil) (r_sone (r_ret (r_var (pv 1))))))
theorem sc_continued : FnScope ["first", "factors", "many", "found", "total", "at"] ["first", "factors", "many"] (defScope (top 31)) := ⟨rfl, rfl, rfl, by decide +kernel, rfl, by decide +kernel, by decide +kernel⟩
theorem ok_continued (E : Ev K mg cls) : DOk P w K mg base CX0 8 E.a_continued ["first", "factors", "many"] [] (spD ⟨P, w, K, cls⟩ 3 m_continued) := by
  have nd := sc_continued.nd
  refine dok_D E.f_continued sc_continued (fun _ _ _ _ _ _ us hl => match us, hl with | [_, _, _], _ => rfl) fun cdv A outer s0 H EX B hr => ?_
  exact (r_scons (r_setO (g := fun {_} h => ps_set (i := 3) nd rfl (by first | exact Or.inl rfl | exact Or.inr rfl) h) (r_list (by rfl) E.b_list (r_dp (r_var (pv 0))))) (r_scons (r_while (n := 1000) PassesOwn.never (r_cmpT (c_lt) (r_len (by rfl) E.b_len (r_pk (pv 3))) (r_var (pv 2))) (r_scons (r_set (g := fun {_} h => ps_set (i := 4) nd rfl (by first | exact Or.inl rfl | exact Or.inr rfl) h) (r_ownK (ok_Poly___mul__ E) E.me_1___mul__ E.sf_1 (hr.mono (by decide)) pass0 (r_ix (r_var (pv 1)) r_int) (r_ixO (pv 3) (r_neg r_int)))) (r_scons (r_for PassesOwn.never (by rfl) (r_range2 (by rfl) E.b_range (r_acons r_int (r_acons (r_len (by rfl) E.b_len (r_dp (r_var (pv 1)))) r_anil))) (r_tgn (pg_name nd rfl (by first | exact Or.inl rfl | exact Or.inr rfl))) (r_sone (r_set (g := fun {_} h => ps_set (i := 4) nd rfl (by first | exact Or.inl rfl | exact Or.inr rfl) h) (r_ownK (ok_Poly___add__ E) E.me_1___add__ E.sf_1 (hr.mono (by decide)) pass0 (r_var (pv 4)) (r_ownK (ok_Poly___mul__ E) E.me_1___mul__ E.sf_1 (hr.mono (by decide)) pass0 (r_ix (r_var (pv 1)) (r_var (pv 5))) (r_ixO (pv 3) (r_sub (r_neg r_int) (r_var (pv 5))))))))) (r_sone (r_app (pv 3) (r_var (pv 4))))))) (r_sone (r_frz (i := 3) (r_ret (r_var (pv 3)))))))
theorem sc_reduce_one : FnScope ["size", "poly", "letter", "factors", "traces", "powers", "total", "cycles", "word", "at", "product", "cycle"] ["size", "poly"] (defScope (top 27)) := ⟨rfl, rfl, rfl, by decide +kernel, rfl, by decide +kernel, by decide +kernel⟩
theorem ok_reduce_one (E : Ev K mg cls) : DOk P w K mg base (L2.CX P w) 11 E.a_reduce_one ["size", "poly"] [] (spX ⟨P, w, K, cls⟩ 2 m_reduce_one) := by
  have nd := sc_reduce_one.nd
  refine dok_X E.f_reduce_one sc_reduce_one (fun _ _ _ _ _ _ us hl => match us, hl with | [_, _], _ => rfl) fun cdv A outer s0 H EX B hr => ?_
  exact (r_scons (r_expXK (ok_check_size E) (hr.mono (by decide)) (by rfl) E.g_check_size (by exact takes_of (by rfl) (by rfl) (by rfl) (by rfl)) (r_acons (r_var (pv 0)) r_anil)) (r_scons (r_setXK (g := fun {_} h => ps_set (i := 2) nd rfl (by first | exact Or.inl rfl | exact Or.inr rfl) h) (ok_only_letter E) (hr.mono (by decide)) (by rfl) E.g_only_letter (by exact takes_of (by rfl) (by rfl) (by rfl) (by rfl)) (r_acons (r_var (pv 1)) r_anil)) (r_scons (r_if (r_cmpT (c_eq hr.units) (r_var (pv 2)) r_str) (r_sone (r_ret (r_var (pv 1)))) r_snil) (r_scons (r_setLc (i := 3) (by rfl) nd (by rfl) (by rfl) (sw_true (by rfl) (by rfl) (by rfl) (by decide +kernel)) (r_range2 (by rfl) E.b_range (r_acons r_int (r_acons (r_add (r_var (pv 0)) r_int) r_anil))) (blkOk_by (own := [("at", 9)]) (by kernel_rfl)) (by decide) (fun _ _ _ _ _ => (r_tgn (pg_name nd rfl (by first | exact Or.inl rfl | exact Or.inr rfl)))) (fun _ _ _ _ _ => r_ifs0) (fun _ _ _ _ _ => (r_methK (ok_Poly_scaled E) E.c_1 E.me_1_scaled (hr.mono (by decide)) pass0 (r_callK (ok_elementary E) (hr.mono (by decide)) (by rfl) E.g_elementary pass0 (r_acons (r_var (pv 9)) (r_acons (r_var (pv 2)) r_anil))) (r_acons (r_od (r_makeK (ok_Ratio___init___1 E) E.mk_0 (hr.mono (by decide)) (by rfl) E.g_Ratio (fun _ => IsL.cons (by simp only [Is]) IsL.nil) pass0 (r_acons (r_ifE (r_tint (r_and (r_var (pv 9)) r_int)) r_int (r_neg r_int)) r_anil))) r_anil)))) (r_scons (r_frz (i := 3) (r_set (g := fun {_} h => ps_set (i := 4) nd rfl (by first | exact Or.inl rfl | exact Or.inr rfl) h) (r_callK (ok_continued E) (hr.mono (by decide)) (by rfl) E.g_continued pass0 (r_acons (r_od (r_lc (by rfl) nd (r_range2 (by rfl) E.b_range (r_acons r_int (r_acons (r_add (r_var (pv 0)) r_int) r_anil))) (blkOk_by (own := [("at", 9)]) (by kernel_rfl)) (by decide) (fun _ _ _ _ _ => (r_tgn (pg_name nd rfl (by first | exact Or.inl rfl | exact Or.inr rfl)))) (fun _ _ _ _ _ => r_ifs0) (fun _ _ _ _ _ => (r_callK (ok_power_trace E) (hr.mono (by decide)) (by rfl) E.g_power_trace pass0 (r_acons (r_var (pv 2)) (r_acons (r_var (pv 9)) r_anil)))))) (r_acons (r_var (pv 3)) (r_acons (r_propK (ok_Poly_degree E) E.c_1 E.p_1_degree (hr.mono (by decide)) pass0 (r_var (pv 1))) r_anil)))))) (r_scons (r_set (g := fun {_} h => ps_set (i := 5) nd rfl (by first | exact Or.inl rfl | exact Or.inr rfl) h) (r_od (r_lst (r_acons (r_statK (ok_Poly_constant E) E.sm_1_constant (by rfl) E.g_Poly (hr.mono (by decide)) pass0 (r_acons r_str (r_acons (r_od (r_makeK (ok_Ratio___init___1 E) E.mk_0 (hr.mono (by decide)) (by rfl) E.g_Ratio (fun _ => IsL.cons (by simp only [Is]) IsL.nil) pass0 (r_acons r_int r_anil))) r_anil))) r_anil)))) (r_scons (r_if (r_cmpT (c_eq hr.units) (r_fld E.c_1 E.na_1_kind (r_dp (r_var (pv 1)))) r_str) (r_sone (r_set (g := fun {_} h => ps_set (i := 5) nd rfl (by first | exact Or.inl rfl | exact Or.inr rfl) h) (r_callK (ok_continued E) (hr.mono (by decide)) (by rfl) E.g_continued pass0 (r_acons (r_od (r_lc (by rfl) nd (r_range1 (by rfl) E.b_range (r_acons (r_var (pv 0)) r_anil)) (blkOk_by (own := [("at", 9)]) (by kernel_rfl)) (by decide) (fun _ _ _ _ _ => (r_tgn (pg_name nd rfl (by first | exact Or.inl rfl | exact Or.inr rfl)))) (fun _ _ _ _ _ => r_ifs0) (fun _ _ _ _ _ => (r_callK (ok_letter_power E) (hr.mono (by decide)) (by rfl) E.g_letter_power pass0 (r_acons (r_var (pv 2)) (r_acons (r_var (pv 9)) r_anil)))))) (r_acons (r_var (pv 3)) (r_acons (r_add (r_propK (ok_Poly_degree E) E.c_1 E.p_1_degree (hr.mono (by decide)) pass0 (r_var (pv 1))) r_int) r_anil)))))) r_snil) (r_scons (r_set (g := fun {_} h => ps_set (i := 6) nd rfl (by first | exact Or.inl rfl | exact Or.inr rfl) h) (r_od (r_makeK (ok_Poly___init__ E) E.mk_1 (hr.mono (by decide)) (by rfl) E.g_Poly (fun _ => IsL.nil) pass0 (r_acons (r_fld E.c_1 E.na_1_kind (r_dp (r_var (pv 1)))) (r_acons (r_od (r_lst r_anil)) r_anil))))) (r_scons (r_for (by exact passes_of rfl) (by rfl) (r_iter (r_fld E.c_1 E.na_1_terms (r_dp (r_var (pv 1))))) (r_tgt (by rfl) (r_tgcons (pg_name nd rfl (by first | exact Or.inl rfl | exact Or.inr rfl)) (r_tgcons (pg_name nd rfl (by first | exact Or.inl rfl | exact Or.inr rfl)) r_tgnil)) (by rfl)) (r_scons (r_set (g := fun {_} h => ps_set (i := 10) nd rfl (by first | exact Or.inl rfl | exact Or.inr rfl) h) (r_ix (r_var (pv 5)) (r_len (by rfl) E.b_len (r_dp (r_var (pv 8)))))) (r_scons (r_for (by exact passes_of rfl) (by rfl) (r_iter (r_var (pv 7))) (r_tgn (pg_name nd rfl (by first | exact Or.inl rfl | exact Or.inr rfl))) (r_sone (r_set (g := fun {_} h => ps_set (i := 10) nd rfl (by first | exact Or.inl rfl | exact Or.inr rfl) h) (r_ownK (ok_Poly___mul__ E) E.me_1___mul__ E.sf_1 (hr.mono (by decide)) pass0 (r_ix (r_var (pv 4)) (r_sub (r_len (by rfl) E.b_len (r_dp (r_var (pv 11)))) r_int)) (r_var (pv 10)))))) (r_sone (r_set (g := fun {_} h => ps_set (i := 6) nd rfl (by first | exact Or.inl rfl | exact Or.inr rfl) h) (r_ownK (ok_Poly___add__ E) E.me_1___add__ E.sf_1 (hr.mono (by decide)) pass0 (r_var (pv 6)) (r_methK (ok_Poly_scaled E) E.c_1 E.me_1_scaled (hr.mono (by decide)) pass0 (r_var (pv 10)) (r_acons (r_subOK (ok_Poly___getitem__ E) E.me_1___getitem__ E.fi_a_Poly___getitem__ (hr.mono (by decide)) pass0 (r_var (pv 1)) (r_tup (r_acons (r_var (pv 7)) (r_acons (r_var (pv 8)) r_anil)))) r_anil)))))))) (r_sone (r_ret (r_var (pv 6)))))))))))))
theorem sc__law_cell : FnScope ["script", "k"] ["script", "k"] (defScope (top 33)) := ⟨rfl, rfl, rfl, by decide +kernel, rfl, by decide +kernel, by decide +kernel⟩
theorem ok__law_cell (E : Ev K mg cls) : DOk P w K mg base CX0 1 E.a__law_cell ["script", "k"] [] (spD ⟨P, w, K, cls⟩ 2 m__law_cell) := by
  have nd := sc__law_cell.nd
  refine dok_D E.f__law_cell sc__law_cell (fun _ _ _ _ _ _ us hl => match us, hl with | [_, _], _ => rfl) fun cdv A outer s0 H EX B hr => ?_
  exact (r_scons (r_if (r_cmpT (c_lt) (r_var (pv 1)) (r_len (by rfl) E.b_len (r_dp (r_var (pv 0))))) (r_sone (r_ret (r_ix (r_var (pv 0)) (r_var (pv 1))))) r_snil) (r_sone (r_ret (r_add (r_add (r_mul r_int (r_var (pv 1))) (r_mul r_int (r_len (by rfl) E.b_len (r_dp (r_var (pv 0)))))) r_int))))
theorem sc__law_number : FnScope ["script", "k", "number"] ["script", "k"] (defScope (top 34)) := ⟨rfl, rfl, rfl, by decide +kernel, rfl, by decide +kernel, by decide +kernel⟩
theorem ok__law_number (E : Ev K mg cls) : DOk P w K mg base CX0 2 E.a__law_number ["script", "k"] [] (spD ⟨P, w, K, cls⟩ 2 m__law_number) := by
  have nd := sc__law_number.nd
  refine dok_D E.f__law_number sc__law_number (fun _ _ _ _ _ _ us hl => match us, hl with | [_, _], _ => rfl) fun cdv A outer s0 H EX B hr => ?_
  exact (r_scons (r_set (g := fun {_} h => ps_set (i := 2) nd rfl (by first | exact Or.inl rfl | exact Or.inr rfl) h) (r_abs (by rfl) E.b_abs (r_dp (r_callK (ok__law_cell E) (hr.mono (by decide)) (by rfl) E.g__law_cell pass0 (r_acons (r_var (pv 0)) (r_acons (r_var (pv 1)) r_anil)))))) (r_scons (r_if (r_cmpT (c_lt) (r_var (pv 2)) (r_pow r_int r_int)) (r_scons (r_set (g := fun {_} h => ps_set (i := 2) nd rfl (by first | exact Or.inl rfl | exact Or.inr rfl) h) (r_add (r_mul (r_add (r_var (pv 2)) r_int) (r_add (r_var (pv 2)) r_int)) (r_mul r_int (r_var (pv 1))))) (r_sone (r_set (g := fun {_} h => ps_set (i := 2) nd rfl (by first | exact Or.inl rfl | exact Or.inr rfl) h) (r_add (r_mul (r_var (pv 2)) (r_add (r_mod (r_int1 (by rfl) E.b_int (r_dp (r_var (pv 2)))) r_int) r_int)) (r_fdiv (r_var (pv 2)) r_int))))) r_snil) (r_sone (r_ret (r_var (pv 2))))))
theorem sc__law_menu : FnScope ["number", "alphabet", "start", "step", "k"] ["number"] (defScope (top 35)) := ⟨rfl, rfl, rfl, by decide +kernel, rfl, by decide +kernel, by decide +kernel⟩
theorem ok__law_menu (E : Ev K mg cls) : DOk P w K mg base CX0 1 E.a__law_menu ["number"] [] (spD ⟨P, w, K, cls⟩ 1 m__law_menu) := by
  have nd := sc__law_menu.nd
  refine dok_D E.f__law_menu sc__law_menu (fun _ _ _ _ _ _ us hl => match us, hl with | [_], _ => rfl) fun cdv A outer s0 H EX B hr => ?_
  exact (r_scons (r_set (g := fun {_} h => ps_set (i := 1) nd rfl (by first | exact Or.inl rfl | exact Or.inr rfl) h) r_str) (r_scons (r_set (g := fun {_} h => ps_set (i := 2) nd rfl (by first | exact Or.inl rfl | exact Or.inr rfl) h) (r_mod (r_int1 (by rfl) E.b_int (r_dp (r_var (pv 0)))) r_int)) (r_scons (r_set (g := fun {_} h => ps_set (i := 3) nd rfl (by first | exact Or.inl rfl | exact Or.inr rfl) h) (r_ix (r_od (r_lst (r_acons r_int (r_acons r_int (r_acons r_int (r_acons r_int (r_acons r_int (r_acons r_int (r_acons r_int (r_acons r_int (r_acons r_int (r_acons r_int (r_acons r_int (r_acons r_int r_anil)))))))))))))) (r_mod (r_int1 (by rfl) E.b_int (r_dp (r_fdiv (r_var (pv 0)) r_int))) r_int))) (r_sone (r_ret (r_join r_str (r_dp (r_od (r_lc (by rfl) nd (r_range1 (by rfl) E.b_range (r_acons r_int r_anil)) (blkOk_by (own := [("k", 4)]) (by kernel_rfl)) (by decide) (fun _ _ _ _ _ => (r_tgn (pg_name nd rfl (by first | exact Or.inl rfl | exact Or.inr rfl)))) (fun _ _ _ _ _ => r_ifs0) (fun _ _ _ _ _ => (r_ix (r_var (pv 1)) (r_mod (r_int1 (by rfl) E.b_int (r_dp (r_add (r_var (pv 2)) (r_mul (r_var (pv 3)) (r_var (pv 4)))))) r_int))))))))))))
theorem sc__law_matrix : FnScope ["number", "size", "span", "rows", "at", "row", "to"] ["number", "size", "span"] (defScope (top 36)) := ⟨rfl, rfl, rfl, by decide +kernel, rfl, by decide +kernel, by decide +kernel⟩
theorem ok__law_matrix (E : Ev K mg cls) : DOk P w K mg base CX0 1 E.a__law_matrix ["number", "size", "span"] [] (spD ⟨P, w, K, cls⟩ 3 m__law_matrix) := by
  have nd := sc__law_matrix.nd
  refine dok_D E.f__law_matrix sc__law_matrix (fun _ _ _ _ _ _ us hl => match us, hl with | [_, _, _], _ => rfl) fun cdv A outer s0 H EX B hr => ?_
  exact (r_scons (r_setO (g := fun {_} h => ps_set (i := 3) nd rfl (by first | exact Or.inl rfl | exact Or.inr rfl) h) (r_lst r_anil)) (r_scons (r_for PassesOwn.never (by rfl) (r_range1 (by rfl) E.b_range (r_acons (r_var (pv 1)) r_anil)) (r_tgn (pg_name nd rfl (by first | exact Or.inl rfl | exact Or.inr rfl))) (r_scons (r_setO (g := fun {_} h => ps_set (i := 5) nd rfl (by first | exact Or.inl rfl | exact Or.inr rfl) h) (r_lst r_anil)) (r_scons (r_for PassesOwn.never (by rfl) (r_range1 (by rfl) E.b_range (r_acons (r_var (pv 1)) r_anil)) (r_tgn (pg_name nd rfl (by first | exact Or.inl rfl | exact Or.inr rfl))) (r_scons (r_app (pv 5) (r_sub (r_mod (r_int1 (by rfl) E.b_int (r_dp (r_var (pv 0)))) (r_add (r_mul r_int (r_var (pv 2))) r_int)) (r_var (pv 2)))) (r_sone (r_set (g := fun {_} h => ps_set (i := 0) nd rfl (by first | exact Or.inl rfl | exact Or.inr rfl) h) (r_fdiv (r_var (pv 0)) (r_add (r_mul r_int (r_var (pv 2))) r_int)))))) (r_sone (r_frz (i := 5) (r_app (pv 3) (r_var (pv 5)))))))) (r_sone (r_frz (i := 3) (r_ret (r_var (pv 3)))))))
theorem sc__law_times : FnScope ["first", "second", "rows", "row", "at", "k"] ["first", "second"] (defScope (top 37)) := ⟨rfl, rfl, rfl, by decide +kernel, rfl, by decide +kernel, by decide +kernel⟩
theorem ok__law_times (E : Ev K mg cls) : DOk P w K mg base CX0 1 E.a__law_times ["first", "second"] [] (spD ⟨P, w, K, cls⟩ 2 m__law_times) := by
  have nd := sc__law_times.nd
  refine dok_D E.f__law_times sc__law_times (fun _ _ _ _ _ _ us hl => match us, hl with | [_, _], _ => rfl) fun cdv A outer s0 H EX B hr => ?_
  exact (r_scons (r_setO (g := fun {_} h => ps_set (i := 2) nd rfl (by first | exact Or.inl rfl | exact Or.inr rfl) h) (r_lst r_anil)) (r_scons (r_for PassesOwn.never (by rfl) (r_iter (r_var (pv 0))) (r_tgn (pg_name nd rfl (by first | exact Or.inl rfl | exact Or.inr rfl))) (r_sone (r_app (pv 2) (r_od (r_lc (by rfl) nd (r_range1 (by rfl) E.b_range (r_acons (r_len (by rfl) E.b_len (r_dp (r_var (pv 1)))) r_anil)) (blkOk_by (own := [("at", 4)]) (by kernel_rfl)) (by decide) (fun _ _ _ _ _ => (r_tgn (pg_name nd rfl (by first | exact Or.inl rfl | exact Or.inr rfl)))) (fun _ _ _ _ _ => r_ifs0) (fun _ _ _ _ _ => (r_sum (by rfl) (by rfl) E.b_sum (r_dp (r_od (r_lc (by rfl) nd (r_range1 (by rfl) E.b_range (r_acons (r_len (by rfl) E.b_len (r_dp (r_var (pv 1)))) r_anil)) (blkOk_by (own := [("k", 5)]) (by kernel_rfl)) (by decide) (fun _ _ _ _ _ => (r_tgn (pg_name nd rfl (by first | exact Or.inl rfl | exact Or.inr rfl)))) (fun _ _ _ _ _ => r_ifs0) (fun _ _ _ _ _ => (r_mul (r_ix (r_var (pv 3)) (r_var (pv 5))) (r_ix (r_ix (r_var (pv 1)) (r_var (pv 5))) (r_var (pv 4))))))))))))))) (r_sone (r_frz (i := 2) (r_ret (r_var (pv 2)))))))
theorem sc__law_one : FnScope ["size", "at", "to"] ["size"] (defScope (top 38)) := ⟨rfl, rfl, rfl, by decide +kernel, rfl, by decide +kernel, by decide +kernel⟩
theorem ok__law_one (E : Ev K mg cls) : DOk P w K mg base CX0 1 E.a__law_one ["size"] [] (spD ⟨P, w, K, cls⟩ 1 m__law_one) := by
  have nd := sc__law_one.nd
  refine dok_D E.f__law_one sc__law_one (fun _ _ _ _ _ _ us hl => match us, hl with | [_], _ => rfl) fun cdv A outer s0 H EX B hr => ?_
  exact (r_sone (r_ret (r_od (r_lc (by rfl) nd (r_range1 (by rfl) E.b_range (r_acons (r_var (pv 0)) r_anil)) (blkOk_by (own := [("at", 1)]) (by kernel_rfl)) (by decide) (fun _ _ _ _ _ => (r_tgn (pg_name nd rfl (by first | exact Or.inl rfl | exact Or.inr rfl)))) (fun _ _ _ _ _ => r_ifs0) (fun _ _ _ _ _ => (r_od (r_lc (by rfl) nd (r_range1 (by rfl) E.b_range (r_acons (r_var (pv 0)) r_anil)) (blkOk_by (own := [("to", 2)]) (by kernel_rfl)) (by decide) (fun _ _ _ _ _ => (r_tgn (pg_name nd rfl (by first | exact Or.inl rfl | exact Or.inr rfl)))) (fun _ _ _ _ _ => r_ifs0) (fun _ _ _ _ _ => (r_int1 (by rfl) E.b_int (r_dp (r_cmpV (c_eq hr.units) (r_var (pv 1)) (r_var (pv 2)))))))))))))
theorem sc__law_in_one : FnScope ["terms", "kind", "size", "square", "powers", "at", "sums", "total", "rows", "cycles", "word", "number", "power", "cycle", "more", "to"] ["terms", "kind", "size", "square"] (defScope (top 39)) := ⟨rfl, rfl, rfl, by decide +kernel, rfl, by decide +kernel, by decide +kernel⟩
theorem ok__law_in_one (E : Ev K mg cls) : DOk P w K mg base CX0 2 E.a__law_in_one ["terms", "kind", "size", "square"] [] (spD ⟨P, w, K, cls⟩ 4 m__law_in_one) := by
  have nd := sc__law_in_one.nd
  refine dok_D E.f__law_in_one sc__law_in_one (fun _ _ _ _ _ _ us hl => match us, hl with | [_, _, _, _], _ => rfl) fun cdv A outer s0 H EX B hr => ?_
  exact (r_scons (r_setO (g := fun {_} h => ps_set (i := 4) nd rfl (by first | exact Or.inl rfl | exact Or.inr rfl) h) (r_lst (r_acons (r_callK (ok__law_one E) (hr.mono (by decide)) (by rfl) E.g__law_one pass0 (r_acons (r_var (pv 2)) r_anil)) r_anil))) (r_scons (r_for PassesOwn.never (by rfl) (r_range1 (by rfl) E.b_range (r_acons r_int r_anil)) (r_tgn (pg_name nd rfl (by first | exact Or.inl rfl | exact Or.inr rfl))) (r_sone (r_app (pv 4) (r_callK (ok__law_times E) (hr.mono (by decide)) (by rfl) E.g__law_times pass0 (r_acons (r_ixO (pv 4) (r_var (pv 5))) (r_acons (r_var (pv 3)) r_anil)))))) (r_scons (r_frz (i := 4) (r_setLc (i := 6) (by rfl) nd (by rfl) (by rfl) (sw_true (by rfl) (by rfl) (by rfl) (by decide +kernel)) (r_iter (r_var (pv 4))) (blkOk_by (own := [("power", 12)]) (by kernel_rfl)) (by decide) (fun _ _ _ _ _ => (r_tgn (pg_name nd rfl (by first | exact Or.inl rfl | exact Or.inr rfl)))) (fun _ _ _ _ _ => r_ifs0) (fun _ _ _ _ _ => (r_sum (by rfl) (by rfl) E.b_sum (r_dp (r_od (r_lc (by rfl) nd (r_range1 (by rfl) E.b_range (r_acons (r_var (pv 2)) r_anil)) (blkOk_by (own := [("at", 5)]) (by kernel_rfl)) (by decide) (fun _ _ _ _ _ => (r_tgn (pg_name nd rfl (by first | exact Or.inl rfl | exact Or.inr rfl)))) (fun _ _ _ _ _ => r_ifs0) (fun _ _ _ _ _ => (r_ix (r_ix (r_var (pv 12)) (r_var (pv 5))) (r_var (pv 5))))))))))) (r_scons (r_set (g := fun {_} h => ps_set (i := 7) nd rfl (by first | exact Or.inl rfl | exact Or.inr rfl) h) r_int) (r_scons (r_set (g := fun {_} h => ps_set (i := 8) nd rfl (by first | exact Or.inl rfl | exact Or.inr rfl) h) (r_od (r_lc (by rfl) nd (r_range1 (by rfl) E.b_range (r_acons (r_var (pv 2)) r_anil)) (blkOk_by (own := [("at", 5)]) (by kernel_rfl)) (by decide) (fun _ _ _ _ _ => (r_tgn (pg_name nd rfl (by first | exact Or.inl rfl | exact Or.inr rfl)))) (fun _ _ _ _ _ => r_ifs0) (fun _ _ _ _ _ => (r_od (r_lc (by rfl) nd (r_range1 (by rfl) E.b_range (r_acons (r_var (pv 2)) r_anil)) (blkOk_by (own := [("to", 15)]) (by kernel_rfl)) (by decide) (fun _ _ _ _ _ => (r_tgn (pg_name nd rfl (by first | exact Or.inl rfl | exact Or.inr rfl)))) (fun _ _ _ _ _ => r_ifs0) (fun _ _ _ _ _ => r_int))))))) (r_scons (r_for PassesOwn.never (by rfl) (r_iter (r_var (pv 0))) (r_tgt (by rfl) (r_tgcons (pg_name nd rfl (by first | exact Or.inl rfl | exact Or.inr rfl)) (r_tgcons (pg_name nd rfl (by first | exact Or.inl rfl | exact Or.inr rfl)) (r_tgcons (pg_name nd rfl (by first | exact Or.inl rfl | exact Or.inr rfl)) r_tgnil))) (by rfl)) (r_scons (r_for PassesOwn.never (by rfl) (r_iter (r_var (pv 9))) (r_tgn (pg_name nd rfl (by first | exact Or.inl rfl | exact Or.inr rfl))) (r_sone (r_set (g := fun {_} h => ps_set (i := 11) nd rfl (by first | exact Or.inl rfl | exact Or.inr rfl) h) (r_mul (r_var (pv 11)) (r_ixO (pv 6) (r_len (by rfl) E.b_len (r_dp (r_var (pv 13))))))))) (r_scons (r_set (g := fun {_} h => ps_set (i := 7) nd rfl (by first | exact Or.inl rfl | exact Or.inr rfl) h) (r_add (r_var (pv 7)) (r_var (pv 11)))) (r_scons (r_set (g := fun {_} h => ps_set (i := 14) nd rfl (by first | exact Or.inl rfl | exact Or.inr rfl) h) (r_ixO (pv 4) (r_len (by rfl) E.b_len (r_dp (r_var (pv 10)))))) (r_sone (r_set (g := fun {_} h => ps_set (i := 8) nd rfl (by first | exact Or.inl rfl | exact Or.inr rfl) h) (r_od (r_lc (by rfl) nd (r_range1 (by rfl) E.b_range (r_acons (r_var (pv 2)) r_anil)) (blkOk_by (own := [("at", 5)]) (by kernel_rfl)) (by decide) (fun _ _ _ _ _ => (r_tgn (pg_name nd rfl (by first | exact Or.inl rfl | exact Or.inr rfl)))) (fun _ _ _ _ _ => r_ifs0) (fun _ _ _ _ _ => (r_od (r_lc (by rfl) nd (r_range1 (by rfl) E.b_range (r_acons (r_var (pv 2)) r_anil)) (blkOk_by (own := [("to", 15)]) (by kernel_rfl)) (by decide) (fun _ _ _ _ _ => (r_tgn (pg_name nd rfl (by first | exact Or.inl rfl | exact Or.inr rfl)))) (fun _ _ _ _ _ => r_ifs0) (fun _ _ _ _ _ => (r_add (r_ix (r_ix (r_var (pv 8)) (r_var (pv 5))) (r_var (pv 15))) (r_mul (r_var (pv 11)) (r_ix (r_ix (r_var (pv 14)) (r_var (pv 5))) (r_var (pv 15))))))))))))))))) (r_scons (r_if (r_cmpT (c_eq hr.units) (r_var (pv 1)) r_str) (r_sone (r_ret (r_var (pv 8)))) r_snil) (r_sone (r_ret (r_var (pv 7)))))))))))
theorem sc__law_poly : FnScope ["kind", "terms", "den", "cycles", "word", "number"] ["kind", "terms", "den"] (defScope (top 40)) := ⟨rfl, rfl, rfl, by decide +kernel, rfl, by decide +kernel, by decide +kernel⟩
theorem ok__law_poly (E : Ev K mg cls) : DOk P w K mg base CX0 6 E.a__law_poly ["kind", "terms", "den"] [] (spD ⟨P, w, K, cls⟩ 3 m__law_poly) := by
  have nd := sc__law_poly.nd
  refine dok_D E.f__law_poly sc__law_poly (fun _ _ _ _ _ _ us hl => match us, hl with | [_, _, _], _ => rfl) fun cdv A outer s0 H EX B hr => ?_
  exact (r_sone (r_ret (r_od (r_makeK (ok_Poly___init__ E) E.mk_1 (hr.mono (by decide)) (by rfl) E.g_Poly (fun _ => IsL.nil) pass0 (r_acons (r_var (pv 0)) (r_acons (r_od (r_lc (by rfl) nd (r_iter (r_var (pv 1))) (blkOk_by (own := [("cycles", 3), ("word", 4), ("number", 5)]) (by kernel_rfl)) (by decide) (fun _ _ _ _ _ => (r_tgt (by rfl) (r_tgcons (pg_name nd rfl (by first | exact Or.inl rfl | exact Or.inr rfl)) (r_tgcons (pg_name nd rfl (by first | exact Or.inl rfl | exact Or.inr rfl)) (r_tgcons (pg_name nd rfl (by first | exact Or.inl rfl | exact Or.inr rfl)) r_tgnil))) (by rfl))) (fun _ _ _ _ _ => r_ifs0) (fun _ _ _ _ _ => (r_tup (r_acons (r_od (r_list (by rfl) E.b_list (r_dp (r_var (pv 3))))) (r_acons (r_var (pv 4)) (r_acons (r_od (r_makeK (ok_Ratio___init___2 E) E.mk_0 (hr.mono (by decide)) (by rfl) E.g_Ratio (fun _ => IsL.nil) pass0 (r_acons (r_var (pv 5)) (r_acons (r_var (pv 2)) r_anil)))) r_anil))))))) r_anil))))))
theorem sc__law_same_number : FnScope ["ratio", "num", "den"] ["ratio", "num", "den"] (defScope (top 41)) := ⟨rfl, rfl, rfl, by decide +kernel, rfl, by decide +kernel, by decide +kernel⟩
theorem ok__law_same_number (E : Ev K mg cls) : DOk P w K mg base CX0 1 E.a__law_same_number ["ratio", "num", "den"] [] (spD ⟨P, w, K, cls⟩ 3 m__law_same_number) := by
  have nd := sc__law_same_number.nd
  refine dok_D E.f__law_same_number sc__law_same_number (fun _ _ _ _ _ _ us hl => match us, hl with | [_, _, _], _ => rfl) fun cdv A outer s0 H EX B hr => ?_
  exact (r_scons (r_if (r_tw (r_tor (r_tnot (r_tval (r_isO E.is_0 (by rfl) E.b_isinstance (by rfl) E.g_Ratio (r_var (pv 0))))) (r_tor (r_tnot (r_tval (r_isI (tn := "int") (by decide) (by rfl) (by rfl) E.b_isinstance (by rfl) E.b_int (pe_bltn (by rfl) E.b_int (v := .ty "int") (by rfl) (by rfl)) (r_fld E.c_0 E.na_0_num (r_dp (r_var (pv 0))))))) (r_tor1 (r_tval (r_isI (tn := "bool") (by decide) (by rfl) (by rfl) E.b_isinstance (by rfl) E.b_bool (pe_bltn (by rfl) E.b_bool (v := .ty "bool") (by rfl) (by rfl)) (r_fld E.c_0 E.na_0_num (r_dp (r_var (pv 0)))))))))) (r_sone (r_ret r_bl)) r_snil) (r_sone (r_ret (r_andV (r_cmpV (c_gt) (r_fld E.c_0 E.na_0_den (r_dp (r_var (pv 0)))) r_int) (r_oneV (r_cmpV (c_eq hr.units) (r_mul (r_fld E.c_0 E.na_0_num (r_dp (r_var (pv 0)))) (r_var (pv 2))) (r_mul (r_var (pv 1)) (r_fld E.c_0 E.na_0_den (r_dp (r_var (pv 0)))))))))))
theorem sc__law_key : FnScope ["cycles", "word", "turned", "cycle", "best", "at"] ["cycles", "word"] (defScope (top 42)) := ⟨rfl, rfl, rfl, by decide +kernel, rfl, by decide +kernel, by decide +kernel⟩
theorem ok__law_key (E : Ev K mg cls) : DOk P w K mg base CX0 1 E.a__law_key ["cycles", "word"] [] (spD ⟨P, w, K, cls⟩ 2 m__law_key) := by
  have nd := sc__law_key.nd
  refine dok_D E.f__law_key sc__law_key (fun _ _ _ _ _ _ us hl => match us, hl with | [_, _], _ => rfl) fun cdv A outer s0 H EX B hr => ?_
  exact (r_scons (r_setO (g := fun {_} h => ps_set (i := 2) nd rfl (by first | exact Or.inl rfl | exact Or.inr rfl) h) (r_lst r_anil)) (r_scons (r_for PassesOwn.never (by rfl) (r_iter (r_var (pv 0))) (r_tgn (pg_name nd rfl (by first | exact Or.inl rfl | exact Or.inr rfl))) (r_scons (r_set (g := fun {_} h => ps_set (i := 4) nd rfl (by first | exact Or.inl rfl | exact Or.inr rfl) h) (r_var (pv 3))) (r_scons (r_for PassesOwn.never (by rfl) (r_range1 (by rfl) E.b_range (r_acons (r_len (by rfl) E.b_len (r_dp (r_var (pv 3)))) r_anil)) (r_tgn (pg_name nd rfl (by first | exact Or.inl rfl | exact Or.inr rfl))) (r_sone (r_if (r_cmpT (c_lt) (r_add (r_sl (r_var (pv 3)) (r_p1 (r_var (pv 5))) r_p0) (r_sl (r_var (pv 3)) r_p0 (r_p1 (r_var (pv 5))))) (r_var (pv 4))) (r_sone (r_set (g := fun {_} h => ps_set (i := 4) nd rfl (by first | exact Or.inl rfl | exact Or.inr rfl) h) (r_add (r_sl (r_var (pv 3)) (r_p1 (r_var (pv 5))) r_p0) (r_sl (r_var (pv 3)) r_p0 (r_p1 (r_var (pv 5))))))) r_snil))) (r_sone (r_app (pv 2) (r_var (pv 4))))))) (r_sone (r_ret (r_tup (r_acons (r_tuple (by rfl) E.b_tuple (r_dp (r_od (r_sorted (by rfl) hr.units (by rfl) E.b_sorted (r_pk (pv 2)))))) (r_acons (r_var (pv 1)) r_anil)))))))
theorem sc__law_rows : FnScope ["terms", "sums", "cycles", "word", "number", "key"] ["terms"] (defScope (top 43)) := ⟨rfl, rfl, rfl, by decide +kernel, rfl, by decide +kernel, by decide +kernel⟩
theorem ok__law_rows (E : Ev K mg cls) : DOk P w K mg base CX0 2 E.a__law_rows ["terms"] [] (spD ⟨P, w, K, cls⟩ 1 m__law_rows) := by
  have nd := sc__law_rows.nd
  refine dok_D E.f__law_rows sc__law_rows (fun _ _ _ _ _ _ us hl => match us, hl with | [_], _ => rfl) fun cdv A outer s0 H EX B hr => ?_
  exact (r_scons (r_setO (g := fun {_} h => ps_set (i := 1) nd rfl (by first | exact Or.inl rfl | exact Or.inr rfl) h) r_dnew) (r_scons (r_for PassesOwn.never (by rfl) (r_iter (r_var (pv 0))) (r_tgt (by rfl) (r_tgcons (pg_name nd rfl (by first | exact Or.inl rfl | exact Or.inr rfl)) (r_tgcons (pg_name nd rfl (by first | exact Or.inl rfl | exact Or.inr rfl)) (r_tgcons (pg_name nd rfl (by first | exact Or.inl rfl | exact Or.inr rfl)) r_tgnil))) (by rfl)) (r_scons (r_set (g := fun {_} h => ps_set (i := 5) nd rfl (by first | exact Or.inl rfl | exact Or.inr rfl) h) (r_callK (ok__law_key E) (hr.mono (by decide)) (by rfl) E.g__law_key pass0 (r_acons (r_var (pv 2)) (r_acons (r_var (pv 3)) r_anil)))) (r_sone (r_dput hr.units (pv 1) (r_var (pv 5)) (r_add (r_dgetOr hr.units (r_pk (pv 1)) (r_var (pv 5)) r_int ⟨by rfl, by rfl, by rfl, by rfl⟩) (r_var (pv 4))) (by rfl))))) (r_sone (r_ret (r_od (r_lc (by rfl) nd (r_iter (r_od (r_sorted (by rfl) hr.units (by rfl) E.b_sorted (r_pk (pv 1))))) (blkOk_by (own := [("key", 5)]) (by kernel_rfl)) (by decide) (fun _ _ _ _ _ => (r_tgn (pg_name nd rfl (by first | exact Or.inl rfl | exact Or.inr rfl)))) (fun _ _ _ _ _ => (r_ifs1 (r_cmpT (c_ne hr.units) (r_dget hr.units (r_pk (pv 1)) (r_var (pv 5)) (by intro _ _; rfl)) r_int))) (fun _ _ _ _ _ => (r_od (r_lst (r_acons (r_var (pv 5)) (r_acons (r_dget hr.units (r_pk (pv 1)) (r_var (pv 5)) (by intro _ _; rfl)) r_anil)))))))))))
theorem sc__law_same_poly : FnScope ["poly", "kind", "rows", "den", "row"] ["poly", "kind", "rows", "den"] (defScope (top 44)) := ⟨rfl, rfl, rfl, by decide +kernel, rfl, by decide +kernel, by decide +kernel⟩
theorem ok__law_same_poly (E : Ev K mg cls) : DOk P w K mg base CX0 5 E.a__law_same_poly ["poly", "kind", "rows", "den"] [] (spD ⟨P, w, K, cls⟩ 4 m__law_same_poly) := by
  have nd := sc__law_same_poly.nd
  refine dok_D E.f__law_same_poly sc__law_same_poly (fun _ _ _ _ _ _ us hl => match us, hl with | [_, _, _, _], _ => rfl) fun cdv A outer s0 H EX B hr => ?_
  exact (r_scons (r_if (r_tw (r_tor (r_tnot (r_tval (r_isO E.is_1 (by rfl) E.b_isinstance (by rfl) E.g_Poly (r_var (pv 0))))) (r_tor (r_cmpT (c_ne hr.units) (r_fld E.c_1 E.na_1_kind (r_dp (r_var (pv 0)))) (r_var (pv 1))) (r_tor1 (r_cmpT (c_ne hr.units) (r_od (r_list (by rfl) E.b_list (r_dp (r_fld E.c_1 E.na_1_terms (r_dp (r_var (pv 0))))))) (r_od (r_lc (by rfl) nd (r_iter (r_var (pv 2))) (blkOk_by (own := [("row", 4)]) (by kernel_rfl)) (by decide) (fun _ _ _ _ _ => (r_tgn (pg_name nd rfl (by first | exact Or.inl rfl | exact Or.inr rfl)))) (fun _ _ _ _ _ => r_ifs0) (fun _ _ _ _ _ => (r_ix (r_var (pv 4)) r_int))))))))) (r_sone (r_ret r_bl)) r_snil) (r_sone (r_ret (r_cmpV (c_eq hr.units) (r_len (by rfl) E.b_len (r_dp (r_od (r_lc (by rfl) nd (r_iter (r_var (pv 2))) (blkOk_by (own := [("row", 4)]) (by kernel_rfl)) (by decide) (fun _ _ _ _ _ => (r_tgn (pg_name nd rfl (by first | exact Or.inl rfl | exact Or.inr rfl)))) (fun _ _ _ _ _ => (r_ifs1 (r_tnot (r_tval (r_callK (ok__law_same_number E) (hr.mono (by decide)) (by rfl) E.g__law_same_number pass0 (r_acons (r_subOK (ok_Poly___getitem__ E) E.me_1___getitem__ E.fi_a_Poly___getitem__ (hr.mono (by decide)) pass0 (r_var (pv 0)) (r_ix (r_var (pv 4)) r_int)) (r_acons (r_ix (r_var (pv 4)) r_int) (r_acons (r_var (pv 3)) r_anil)))))))) (fun _ _ _ _ _ => (r_var (pv 4))))))) r_int))))
theorem sc__law_joined : FnScope ["rows", "more", "result", "cycles", "word", "number", "others", "piece", "factor"] ["rows", "more"] (defScope (top 45)) := ⟨rfl, rfl, rfl, by decide +kernel, rfl, by decide +kernel, by decide +kernel⟩
theorem ok__law_joined (E : Ev K mg cls) : DOk P w K mg base CX0 1 E.a__law_joined ["rows", "more"] [] (spD ⟨P, w, K, cls⟩ 2 m__law_joined) := by
  have nd := sc__law_joined.nd
  refine dok_D E.f__law_joined sc__law_joined (fun _ _ _ _ _ _ us hl => match us, hl with | [_, _], _ => rfl) fun cdv A outer s0 H EX B hr => ?_
  exact (r_scons (r_setO (g := fun {_} h => ps_set (i := 2) nd rfl (by first | exact Or.inl rfl | exact Or.inr rfl) h) (r_lst r_anil)) (r_scons (r_for PassesOwn.never (by rfl) (r_iter (r_var (pv 0))) (r_tgt (by rfl) (r_tgcons (pg_name nd rfl (by first | exact Or.inl rfl | exact Or.inr rfl)) (r_tgcons (pg_name nd rfl (by first | exact Or.inl rfl | exact Or.inr rfl)) (r_tgcons (pg_name nd rfl (by first | exact Or.inl rfl | exact Or.inr rfl)) r_tgnil))) (by rfl)) (r_sone (r_for PassesOwn.never (by rfl) (r_iter (r_var (pv 1))) (r_tgt (by rfl) (r_tgcons (pg_name nd rfl (by first | exact Or.inl rfl | exact Or.inr rfl)) (r_tgcons (pg_name nd rfl (by first | exact Or.inl rfl | exact Or.inr rfl)) (r_tgcons (pg_name nd rfl (by first | exact Or.inl rfl | exact Or.inr rfl)) r_tgnil))) (by rfl)) (r_sone (r_app (pv 2) (r_tup (r_acons (r_add (r_var (pv 3)) (r_var (pv 6))) (r_acons (r_add (r_var (pv 4)) (r_var (pv 7))) (r_acons (r_mul (r_var (pv 5)) (r_var (pv 8))) r_anil))))))))) (r_sone (r_frz (i := 2) (r_ret (r_var (pv 2)))))))
theorem sc__law_closed : FnScope ["rows", "size", "result", "cycles", "word", "number"] ["rows", "size"] (defScope (top 46)) := ⟨rfl, rfl, rfl, by decide +kernel, rfl, by decide +kernel, by decide +kernel⟩
theorem ok__law_closed (E : Ev K mg cls) : DOk P w K mg base CX0 1 E.a__law_closed ["rows", "size"] [] (spD ⟨P, w, K, cls⟩ 2 m__law_closed) := by
  have nd := sc__law_closed.nd
  refine dok_D E.f__law_closed sc__law_closed (fun _ _ _ _ _ _ us hl => match us, hl with | [_, _], _ => rfl) fun cdv A outer s0 H EX B hr => ?_
  exact (r_scons (r_setO (g := fun {_} h => ps_set (i := 2) nd rfl (by first | exact Or.inl rfl | exact Or.inr rfl) h) (r_lst r_anil)) (r_scons (r_for PassesOwn.never (by rfl) (r_iter (r_var (pv 0))) (r_tgt (by rfl) (r_tgcons (pg_name nd rfl (by first | exact Or.inl rfl | exact Or.inr rfl)) (r_tgcons (pg_name nd rfl (by first | exact Or.inl rfl | exact Or.inr rfl)) (r_tgcons (pg_name nd rfl (by first | exact Or.inl rfl | exact Or.inr rfl)) r_tgnil))) (by rfl)) (r_sone (r_if (r_cmpT (c_eq hr.units) (r_var (pv 4)) r_str) (r_sone (r_app (pv 2) (r_tup (r_acons (r_var (pv 3)) (r_acons r_str (r_acons (r_mul (r_var (pv 5)) (r_var (pv 1))) r_anil)))))) (r_sone (r_app (pv 2) (r_tup (r_acons (r_add (r_var (pv 3)) (r_od (r_lst (r_acons (r_var (pv 4)) r_anil)))) (r_acons r_str (r_acons (r_var (pv 5)) r_anil))))))))) (r_sone (r_frz (i := 2) (r_ret (r_var (pv 2)))))))
theorem sc__law_cut : FnScope ["number", "degree", "letter", "kind", "word", "left", "cycles", "turn", "length"] ["number", "degree", "letter", "kind"] (defScope (top 47)) := ⟨rfl, rfl, rfl, by decide +kernel, rfl, by decide +kernel, by decide +kernel⟩
theorem ok__law_cut (E : Ev K mg cls) : DOk P w K mg base CX0 1 E.a__law_cut ["number", "degree", "letter", "kind"] [] (spD ⟨P, w, K, cls⟩ 4 m__law_cut) := by
  have nd := sc__law_cut.nd
  refine dok_D E.f__law_cut sc__law_cut (fun _ _ _ _ _ _ us hl => match us, hl with | [_, _, _, _], _ => rfl) fun cdv A outer s0 H EX B hr => ?_
  exact (r_scons (r_set (g := fun {_} h => ps_set (i := 4) nd rfl (by first | exact Or.inl rfl | exact Or.inr rfl) h) r_str) (r_scons (r_if (r_cmpT (c_eq hr.units) (r_var (pv 3)) r_str) (r_scons (r_set (g := fun {_} h => ps_set (i := 4) nd rfl (by first | exact Or.inl rfl | exact Or.inr rfl) h) (r_mul (r_var (pv 2)) (r_mod (r_int1 (by rfl) E.b_int (r_dp (r_var (pv 0)))) (r_add (r_var (pv 1)) r_int)))) (r_sone (r_set (g := fun {_} h => ps_set (i := 0) nd rfl (by first | exact Or.inl rfl | exact Or.inr rfl) h) (r_fdiv (r_var (pv 0)) (r_add (r_var (pv 1)) r_int))))) r_snil) (r_scons (r_set (g := fun {_} h => ps_set (i := 5) nd rfl (by first | exact Or.inl rfl | exact Or.inr rfl) h) (r_sub (r_var (pv 1)) (r_len (by rfl) E.b_len (r_dp (r_var (pv 4)))))) (r_scons (r_setO (g := fun {_} h => ps_set (i := 6) nd rfl (by first | exact Or.inl rfl | exact Or.inr rfl) h) (r_lst r_anil)) (r_scons (r_for PassesOwn.never (by rfl) (r_range1 (by rfl) E.b_range (r_acons (r_var (pv 1)) r_anil)) (r_tgn (pg_name nd rfl (by first | exact Or.inl rfl | exact Or.inr rfl))) (r_scons (r_if (r_cmpT (c_eq hr.units) (r_var (pv 5)) r_int) (r_sone r_break) r_snil) (r_scons (r_set (g := fun {_} h => ps_set (i := 8) nd rfl (by first | exact Or.inl rfl | exact Or.inr rfl) h) (r_add r_int (r_mod (r_int1 (by rfl) E.b_int (r_dp (r_var (pv 0)))) (r_var (pv 5))))) (r_scons (r_set (g := fun {_} h => ps_set (i := 0) nd rfl (by first | exact Or.inl rfl | exact Or.inr rfl) h) (r_fdiv (r_var (pv 0)) (r_var (pv 5)))) (r_scons (r_app (pv 6) (r_mul (r_var (pv 2)) (r_var (pv 8)))) (r_sone (r_set (g := fun {_} h => ps_set (i := 5) nd rfl (by first | exact Or.inl rfl | exact Or.inr rfl) h) (r_sub (r_var (pv 5)) (r_var (pv 8)))))))))) (r_sone (r_frz (i := 6) (r_ret (r_tup (r_acons (r_var (pv 6)) (r_acons (r_var (pv 4)) r_anil)))))))))))
theorem sc__law_powers : FnScope ["script", "first", "many", "degrees", "letter", "kind", "terms", "at", "number", "degree", "pair"] ["script", "first", "many", "degrees", "letter", "kind"] (defScope (top 48)) := ⟨rfl, rfl, rfl, by decide +kernel, rfl, by decide +kernel, by decide +kernel⟩
theorem ok__law_powers (E : Ev K mg cls) : DOk P w K mg base CX0 3 E.a__law_powers ["script", "first", "many", "degrees", "letter", "kind"] [] (spD ⟨P, w, K, cls⟩ 6 m__law_powers) := by
  have nd := sc__law_powers.nd
  refine dok_D E.f__law_powers sc__law_powers (fun _ _ _ _ _ _ us hl => match us, hl with | [_, _, _, _, _, _], _ => rfl) fun cdv A outer s0 H EX B hr => ?_
  exact (r_scons (r_setO (g := fun {_} h => ps_set (i := 6) nd rfl (by first | exact Or.inl rfl | exact Or.inr rfl) h) (r_lst r_anil)) (r_scons (r_for PassesOwn.never (by rfl) (r_range1 (by rfl) E.b_range (r_acons (r_var (pv 2)) r_anil)) (r_tgn (pg_name nd rfl (by first | exact Or.inl rfl | exact Or.inr rfl))) (r_scons (r_set (g := fun {_} h => ps_set (i := 8) nd rfl (by first | exact Or.inl rfl | exact Or.inr rfl) h) (r_callK (ok__law_number E) (hr.mono (by decide)) (by rfl) E.g__law_number pass0 (r_acons (r_var (pv 0)) (r_acons (r_add (r_var (pv 1)) (r_var (pv 7))) r_anil)))) (r_scons (r_set (g := fun {_} h => ps_set (i := 9) nd rfl (by first | exact Or.inl rfl | exact Or.inr rfl) h) (r_ix (r_var (pv 3)) (r_mod (r_int1 (by rfl) E.b_int (r_dp (r_fdiv (r_var (pv 8)) r_int))) (r_len (by rfl) E.b_len (r_dp (r_var (pv 3))))))) (r_scons (r_set (g := fun {_} h => ps_set (i := 10) nd rfl (by first | exact Or.inl rfl | exact Or.inr rfl) h) (r_callK (ok__law_cut E) (hr.mono (by decide)) (by rfl) E.g__law_cut pass0 (r_acons (r_fdiv (r_var (pv 8)) (r_mul r_int (r_len (by rfl) E.b_len (r_dp (r_var (pv 3)))))) (r_acons (r_var (pv 9)) (r_acons (r_var (pv 4)) (r_acons (r_var (pv 5)) r_anil)))))) (r_sone (r_app (pv 6) (r_tup (r_acons (r_ix (r_var (pv 10)) r_int) (r_acons (r_ix (r_var (pv 10)) r_int) (r_acons (r_sub (r_mod (r_int1 (by rfl) E.b_int (r_dp (r_var (pv 8)))) r_int) r_int) r_anil)))))))))) (r_sone (r_frz (i := 6) (r_ret (r_var (pv 6)))))))
theorem sc__law_newton : FnScope ["size", "letter", "two", "rows"] ["size", "letter"] (defScope (top 49)) := ⟨rfl, rfl, rfl, by decide +kernel, rfl, by decide +kernel, by decide +kernel⟩
theorem ok__law_newton (E : Ev K mg cls) : DOk P w K mg base CX0 1 E.a__law_newton ["size", "letter"] [] (spD ⟨P, w, K, cls⟩ 2 m__law_newton) := by
  have nd := sc__law_newton.nd
  refine dok_D E.f__law_newton sc__law_newton (fun _ _ _ _ _ _ us hl => match us, hl with | [_, _], _ => rfl) fun cdv A outer s0 H EX B hr => ?_
  exact (r_scons (r_if (r_cmpT (c_eq hr.units) (r_var (pv 0)) r_int) (r_sone (r_ret (r_od (r_lst (r_acons (r_tup (r_acons (r_od (r_lst r_anil)) (r_acons (r_var (pv 1)) (r_acons r_int r_anil)))) (r_acons (r_tup (r_acons (r_od (r_lst (r_acons (r_var (pv 1)) r_anil))) (r_acons r_str (r_acons (r_neg r_int) r_anil)))) r_anil)))))) r_snil) (r_scons (r_set (g := fun {_} h => ps_set (i := 2) nd rfl (by first | exact Or.inl rfl | exact Or.inr rfl) h) (r_add (r_var (pv 1)) (r_var (pv 1)))) (r_scons (r_if (r_cmpT (c_eq hr.units) (r_var (pv 0)) r_int) (r_sone (r_ret (r_od (r_lst (r_acons (r_tup (r_acons (r_od (r_lst r_anil)) (r_acons (r_var (pv 2)) (r_acons r_int r_anil)))) (r_acons (r_tup (r_acons (r_od (r_lst (r_acons (r_var (pv 1)) r_anil))) (r_acons (r_var (pv 1)) (r_acons (r_neg r_int) r_anil)))) (r_acons (r_tup (r_acons (r_od (r_lst (r_acons (r_var (pv 1)) (r_acons (r_var (pv 1)) r_anil)))) (r_acons r_str (r_acons r_int r_anil)))) (r_acons (r_tup (r_acons (r_od (r_lst (r_acons (r_var (pv 2)) r_anil))) (r_acons r_str (r_acons (r_neg r_int) r_anil)))) r_anil)))))))) r_snil) (r_scons (r_set (g := fun {_} h => ps_set (i := 3) nd rfl (by first | exact Or.inl rfl | exact Or.inr rfl) h) (r_od (r_lst (r_acons (r_tup (r_acons (r_od (r_lst r_anil)) (r_acons (r_add (r_var (pv 2)) (r_var (pv 1))) (r_acons r_int r_anil)))) (r_acons (r_tup (r_acons (r_od (r_lst (r_acons (r_var (pv 1)) r_anil))) (r_acons (r_var (pv 2)) (r_acons (r_neg r_int) r_anil)))) (r_acons (r_tup (r_acons (r_od (r_lst (r_acons (r_var (pv 1)) (r_acons (r_var (pv 1)) r_anil)))) (r_acons (r_var (pv 1)) (r_acons r_int r_anil)))) (r_acons (r_tup (r_acons (r_od (r_lst (r_acons (r_var (pv 2)) r_anil))) (r_acons (r_var (pv 1)) (r_acons (r_neg r_int) r_anil)))) r_anil))))))) (r_sone (r_ret (r_add (r_var (pv 3)) (r_od (r_lst (r_acons (r_tup (r_acons (r_od (r_lst (r_acons (r_var (pv 1)) (r_acons (r_var (pv 1)) (r_acons (r_var (pv 1)) r_anil))))) (r_acons r_str (r_acons (r_neg r_int) r_anil)))) (r_acons (r_tup (r_acons (r_od (r_lst (r_acons (r_var (pv 1)) (r_acons (r_var (pv 2)) r_anil)))) (r_acons r_str (r_acons r_int r_anil)))) (r_acons (r_tup (r_acons (r_od (r_lst (r_acons (r_add (r_var (pv 2)) (r_var (pv 1))) r_anil))) (r_acons r_str (r_acons (r_neg r_int) r_anil)))) r_anil))))))))))))
theorem sc__law_own : FnScope ["poly", "den", "key", "ratio"] ["poly"] (defScope (top 50)) := ⟨rfl, rfl, rfl, by decide +kernel, rfl, by decide +kernel, by decide +kernel⟩
theorem ok__law_own (E : Ev K mg cls) : DOk P w K mg base CX0 5 E.a__law_own ["poly"] [] (spD ⟨P, w, K, cls⟩ 1 m__law_own) := by
  have nd := sc__law_own.nd
  refine dok_D E.f__law_own sc__law_own (fun _ _ _ _ _ _ us hl => match us, hl with | [_], _ => rfl) fun cdv A outer s0 H EX B hr => ?_
  exact (r_scons (r_set (g := fun {_} h => ps_set (i := 1) nd rfl (by first | exact Or.inl rfl | exact Or.inr rfl) h) r_int) (r_scons (r_for PassesOwn.never (by rfl) (r_iter (r_fld E.c_1 E.na_1_terms (r_dp (r_var (pv 0))))) (r_tgn (pg_name nd rfl (by first | exact Or.inl rfl | exact Or.inr rfl))) (r_scons (r_set (g := fun {_} h => ps_set (i := 3) nd rfl (by first | exact Or.inl rfl | exact Or.inr rfl) h) (r_subOK (ok_Poly___getitem__ E) E.me_1___getitem__ E.fi_a_Poly___getitem__ (hr.mono (by decide)) pass0 (r_var (pv 0)) (r_var (pv 2)))) (r_scons (r_if (r_tw (r_tor (r_tnot (r_tval (r_isO E.is_0 (by rfl) E.b_isinstance (by rfl) E.g_Ratio (r_var (pv 3))))) (r_tor (r_cmpT (c_lt) (r_fld E.c_0 E.na_0_den (r_dp (r_var (pv 3)))) r_int) (r_tor1 (r_cmpT (c_eq hr.units) (r_fld E.c_0 E.na_0_num (r_dp (r_var (pv 3)))) r_int))))) (r_sone (r_ret r_non)) r_snil) (r_sone (r_if (r_cmpT (c_ne hr.units) (r_mod (r_int1 (by rfl) E.b_int (r_dp (r_var (pv 1)))) (r_fld E.c_0 E.na_0_den (r_dp (r_var (pv 3))))) r_int) (r_sone (r_set (g := fun {_} h => ps_set (i := 1) nd rfl (by first | exact Or.inl rfl | exact Or.inr rfl) h) (r_mul (r_var (pv 1)) (r_fld E.c_0 E.na_0_den (r_dp (r_var (pv 3))))))) r_snil))))) (r_sone (r_ret (r_od (r_lst (r_acons (r_od (r_lc (by rfl) nd (r_iter (r_fld E.c_1 E.na_1_terms (r_dp (r_var (pv 0))))) (blkOk_by (own := [("key", 2)]) (by kernel_rfl)) (by decide) (fun _ _ _ _ _ => (r_tgn (pg_name nd rfl (by first | exact Or.inl rfl | exact Or.inr rfl)))) (fun _ _ _ _ _ => r_ifs0) (fun _ _ _ _ _ => (r_tup (r_acons (r_od (r_list (by rfl) E.b_list (r_dp (r_ix (r_var (pv 2)) r_int)))) (r_acons (r_ix (r_var (pv 2)) r_int) (r_acons (r_mul (r_fld E.c_0 E.na_0_num (r_dp (r_subOK (ok_Poly___getitem__ E) E.me_1___getitem__ E.fi_a_Poly___getitem__ (hr.mono (by decide)) pass0 (r_var (pv 0)) (r_var (pv 2))))) (r_fdiv (r_var (pv 1)) (r_fld E.c_0 E.na_0_den (r_dp (r_subOK (ok_Poly___getitem__ E) E.me_1___getitem__ E.fi_a_Poly___getitem__ (hr.mono (by decide)) pass0 (r_var (pv 0)) (r_var (pv 2))))))) r_anil))))))) (r_acons (r_var (pv 1)) r_anil))))))))
theorem sc__law_equal : FnScope ["first", "second", "key"] ["first", "second"] (defScope (top 51)) := ⟨rfl, rfl, rfl, by decide +kernel, rfl, by decide +kernel, by decide +kernel⟩
theorem ok__law_equal (E : Ev K mg cls) : DOk P w K mg base CX0 5 E.a__law_equal ["first", "second"] [] (spD ⟨P, w, K, cls⟩ 2 m__law_equal) := by
  have nd := sc__law_equal.nd
  refine dok_D E.f__law_equal sc__law_equal (fun _ _ _ _ _ _ us hl => match us, hl with | [_, _], _ => rfl) fun cdv A outer s0 H EX B hr => ?_
  exact (r_scons (r_if (r_tw (r_tor (r_tnot (r_tval (r_isO E.is_1 (by rfl) E.b_isinstance (by rfl) E.g_Poly (r_var (pv 1))))) (r_tor (r_cmpT (c_ne hr.units) (r_fld E.c_1 E.na_1_kind (r_dp (r_var (pv 0)))) (r_fld E.c_1 E.na_1_kind (r_dp (r_var (pv 1))))) (r_tor1 (r_cmpT (c_ne hr.units) (r_od (r_list (by rfl) E.b_list (r_dp (r_fld E.c_1 E.na_1_terms (r_dp (r_var (pv 0))))))) (r_od (r_list (by rfl) E.b_list (r_dp (r_fld E.c_1 E.na_1_terms (r_dp (r_var (pv 1)))))))))))) (r_sone (r_ret r_bl)) r_snil) (r_sone (r_ret (r_cmpV (c_eq hr.units) (r_len (by rfl) E.b_len (r_dp (r_od (r_lc (by rfl) nd (r_iter (r_fld E.c_1 E.na_1_terms (r_dp (r_var (pv 0))))) (blkOk_by (own := [("key", 2)]) (by kernel_rfl)) (by decide) (fun _ _ _ _ _ => (r_tgn (pg_name nd rfl (by first | exact Or.inl rfl | exact Or.inr rfl)))) (fun _ _ _ _ _ => (r_ifs1 (r_tnot (r_tval (r_callK (ok__law_same_number E) (hr.mono (by decide)) (by rfl) E.g__law_same_number pass0 (r_acons (r_subOK (ok_Poly___getitem__ E) E.me_1___getitem__ E.fi_a_Poly___getitem__ (hr.mono (by decide)) pass0 (r_var (pv 1)) (r_var (pv 2))) (r_acons (r_fld E.c_0 E.na_0_num (r_dp (r_subOK (ok_Poly___getitem__ E) E.me_1___getitem__ E.fi_a_Poly___getitem__ (hr.mono (by decide)) pass0 (r_var (pv 0)) (r_var (pv 2))))) (r_acons (r_fld E.c_0 E.na_0_den (r_dp (r_subOK (ok_Poly___getitem__ E) E.me_1___getitem__ E.fi_a_Poly___getitem__ (hr.mono (by decide)) pass0 (r_var (pv 0)) (r_var (pv 2))))) r_anil)))))))) (fun _ _ _ _ _ => (r_var (pv 2))))))) r_int))))
theorem sc__law_is_short : FnScope ["answer", "kind", "letter", "size", "cycles", "word", "cycle"] ["answer", "kind", "letter", "size"] (defScope (top 52)) := ⟨rfl, rfl, rfl, by decide +kernel, rfl, by decide +kernel, by decide +kernel⟩
theorem ok__law_is_short (E : Ev K mg cls) : DOk P w K mg base CX0 1 E.a__law_is_short ["answer", "kind", "letter", "size"] [] (spD ⟨P, w, K, cls⟩ 4 m__law_is_short) := by
  have nd := sc__law_is_short.nd
  refine dok_D E.f__law_is_short sc__law_is_short (fun _ _ _ _ _ _ us hl => match us, hl with | [_, _, _, _], _ => rfl) fun cdv A outer s0 H EX B hr => ?_
  exact (r_scons (r_if (r_tw (r_tor (r_tnot (r_tval (r_isO E.is_1 (by rfl) E.b_isinstance (by rfl) E.g_Poly (r_var (pv 0))))) (r_tor1 (r_cmpT (c_ne hr.units) (r_fld E.c_1 E.na_1_kind (r_dp (r_var (pv 0)))) (r_var (pv 1)))))) (r_sone (r_ret r_bl)) r_snil) (r_scons (r_for PassesOwn.never (by rfl) (r_iter (r_fld E.c_1 E.na_1_terms (r_dp (r_var (pv 0))))) (r_tgt (by rfl) (r_tgcons (pg_name nd rfl (by first | exact Or.inl rfl | exact Or.inr rfl)) (r_tgcons (pg_name nd rfl (by first | exact Or.inl rfl | exact Or.inr rfl)) r_tgnil)) (by rfl)) (r_scons (r_if (r_tw (r_tor (r_cmpT (c_ne hr.units) (r_var (pv 5)) (r_mul (r_var (pv 2)) (r_len (by rfl) E.b_len (r_dp (r_var (pv 5)))))) (r_tor1 (r_cmpT (c_ge) (r_len (by rfl) E.b_len (r_dp (r_var (pv 5)))) (r_var (pv 3)))))) (r_sone (r_ret r_bl)) r_snil) (r_sone (r_for PassesOwn.never (by rfl) (r_iter (r_var (pv 4))) (r_tgn (pg_name nd rfl (by first | exact Or.inl rfl | exact Or.inr rfl))) (r_sone (r_if (r_tw (r_tor (r_cmpT (c_ne hr.units) (r_var (pv 6)) (r_mul (r_var (pv 2)) (r_len (by rfl) E.b_len (r_dp (r_var (pv 6)))))) (r_tor (r_cmpT (c_lt) (r_len (by rfl) E.b_len (r_dp (r_var (pv 6)))) r_int) (r_tor1 (r_cmpT (c_gt) (r_len (by rfl) E.b_len (r_dp (r_var (pv 6)))) (r_var (pv 3))))))) (r_sone (r_ret r_bl)) r_snil)))))) (r_sone (r_ret r_bl))))
theorem sc__law_value_stays : FnScope ["answer", "kind", "terms", "over", "letter", "size", "square", "told", "first", "second", "at", "entry"] ["answer", "kind", "terms", "over", "letter", "size", "square"] (defScope (top 53)) := ⟨rfl, rfl, rfl, by decide +kernel, rfl, by decide +kernel, by decide +kernel⟩
theorem ok__law_value_stays (E : Ev K mg cls) : DOk P w K mg base CX0 6 E.a__law_value_stays ["answer", "kind", "terms", "over", "letter", "size", "square"] [] (spD ⟨P, w, K, cls⟩ 7 m__law_value_stays) := by
  have nd := sc__law_value_stays.nd
  refine dok_D E.f__law_value_stays sc__law_value_stays (fun _ _ _ _ _ _ us hl => match us, hl with | [_, _, _, _, _, _, _], _ => rfl) fun cdv A outer s0 H EX B hr => ?_
  exact (r_scons (r_if (r_tnot (r_tval (r_callK (ok__law_is_short E) (hr.mono (by decide)) (by rfl) E.g__law_is_short pass0 (r_acons (r_var (pv 0)) (r_acons (r_var (pv 1)) (r_acons (r_var (pv 4)) (r_acons (r_var (pv 5)) r_anil))))))) (r_sone (r_ret r_bl)) r_snil) (r_scons (r_set (g := fun {_} h => ps_set (i := 7) nd rfl (by first | exact Or.inl rfl | exact Or.inr rfl) h) (r_callK (ok__law_own E) (hr.mono (by decide)) (by rfl) E.g__law_own pass0 (r_acons (r_var (pv 0)) r_anil))) (r_scons (r_if (r_cmpT (c_is) (r_var (pv 7)) r_non) (r_sone (r_ret r_bl)) r_snil) (r_scons (r_set (g := fun {_} h => ps_set (i := 8) nd rfl (by first | exact Or.inl rfl | exact Or.inr rfl) h) (r_callK (ok__law_in_one E) (hr.mono (by decide)) (by rfl) E.g__law_in_one pass0 (r_acons (r_var (pv 2)) (r_acons (r_var (pv 1)) (r_acons (r_var (pv 5)) (r_acons (r_var (pv 6)) r_anil)))))) (r_scons (r_set (g := fun {_} h => ps_set (i := 9) nd rfl (by first | exact Or.inl rfl | exact Or.inr rfl) h) (r_callK (ok__law_in_one E) (hr.mono (by decide)) (by rfl) E.g__law_in_one pass0 (r_acons (r_ix (r_var (pv 7)) r_int) (r_acons (r_var (pv 1)) (r_acons (r_var (pv 5)) (r_acons (r_var (pv 6)) r_anil)))))) (r_scons (r_if (r_cmpT (c_eq hr.units) (r_var (pv 1)) r_str) (r_sone (r_ret (r_cmpV (c_eq hr.units) (r_mul (r_var (pv 8)) (r_ix (r_var (pv 7)) r_int)) (r_mul (r_var (pv 9)) (r_var (pv 3)))))) r_snil) (r_scons (r_for PassesOwn.never (by rfl) (r_range1 (by rfl) E.b_range (r_acons (r_var (pv 5)) r_anil)) (r_tgn (pg_name nd rfl (by first | exact Or.inl rfl | exact Or.inr rfl))) (r_sone (r_if (r_cmpT (c_ne hr.units) (r_od (r_lc (by rfl) nd (r_iter (r_ix (r_var (pv 8)) (r_var (pv 10)))) (blkOk_by (own := [("entry", 11)]) (by kernel_rfl)) (by decide) (fun _ _ _ _ _ => (r_tgn (pg_name nd rfl (by first | exact Or.inl rfl | exact Or.inr rfl)))) (fun _ _ _ _ _ => r_ifs0) (fun _ _ _ _ _ => (r_mul (r_var (pv 11)) (r_ix (r_var (pv 7)) r_int))))) (r_od (r_lc (by rfl) nd (r_iter (r_ix (r_var (pv 9)) (r_var (pv 10)))) (blkOk_by (own := [("entry", 11)]) (by kernel_rfl)) (by decide) (fun _ _ _ _ _ => (r_tgn (pg_name nd rfl (by first | exact Or.inl rfl | exact Or.inr rfl)))) (fun _ _ _ _ _ => r_ifs0) (fun _ _ _ _ _ => (r_mul (r_var (pv 11)) (r_var (pv 3))))))) (r_sone (r_ret r_bl)) r_snil))) (r_sone (r_ret r_bl)))))))))
theorem sc__law_nothing : FnScope ["script", "kind", "letter", "size", "basis", "number", "factors", "others", "closed"] ["script", "kind", "letter", "size"] (defScope (top 54)) := ⟨rfl, rfl, rfl, by decide +kernel, rfl, by decide +kernel, by decide +kernel⟩
theorem ok__law_nothing (E : Ev K mg cls) : DOk P w K mg base CX0 4 E.a__law_nothing ["script", "kind", "letter", "size"] [] (spD ⟨P, w, K, cls⟩ 4 m__law_nothing) := by
  have nd := sc__law_nothing.nd
  refine dok_D E.f__law_nothing sc__law_nothing (fun _ _ _ _ _ _ us hl => match us, hl with | [_, _, _, _], _ => rfl) fun cdv A outer s0 H EX B hr => ?_
  exact (r_scons (r_set (g := fun {_} h => ps_set (i := 4) nd rfl (by first | exact Or.inl rfl | exact Or.inr rfl) h) (r_callK (ok__law_newton E) (hr.mono (by decide)) (by rfl) E.g__law_newton pass0 (r_acons (r_var (pv 3)) (r_acons (r_var (pv 2)) r_anil)))) (r_scons (r_set (g := fun {_} h => ps_set (i := 5) nd rfl (by first | exact Or.inl rfl | exact Or.inr rfl) h) (r_callK (ok__law_number E) (hr.mono (by decide)) (by rfl) E.g__law_number pass0 (r_acons (r_var (pv 0)) (r_acons r_int r_anil)))) (r_scons (r_set (g := fun {_} h => ps_set (i := 6) nd rfl (by first | exact Or.inl rfl | exact Or.inr rfl) h) (r_callK (ok__law_powers E) (hr.mono (by decide)) (by rfl) E.g__law_powers pass0 (r_acons (r_var (pv 0)) (r_acons r_int (r_acons (r_add r_int (r_mod (r_int1 (by rfl) E.b_int (r_dp (r_var (pv 5)))) r_int)) (r_acons (r_od (r_lst (r_acons r_int (r_acons r_int (r_acons r_int (r_acons r_int r_anil)))))) (r_acons (r_var (pv 2)) (r_acons r_str r_anil)))))))) (r_scons (r_set (g := fun {_} h => ps_set (i := 7) nd rfl (by first | exact Or.inl rfl | exact Or.inr rfl) h) (r_callK (ok__law_powers E) (hr.mono (by decide)) (by rfl) E.g__law_powers pass0 (r_acons (r_var (pv 0)) (r_acons r_int (r_acons (r_add r_int (r_mod (r_int1 (by rfl) E.b_int (r_dp (r_fdiv (r_var (pv 5)) r_int))) r_int)) (r_acons (r_od (r_lst (r_acons r_int (r_acons r_int (r_acons r_int (r_acons r_int r_anil)))))) (r_acons (r_var (pv 2)) (r_acons r_str r_anil)))))))) (r_scons (r_set (g := fun {_} h => ps_set (i := 8) nd rfl (by first | exact Or.inl rfl | exact Or.inr rfl) h) (r_callK (ok__law_closed E) (hr.mono (by decide)) (by rfl) E.g__law_closed pass0 (r_acons (r_callK (ok__law_joined E) (hr.mono (by decide)) (by rfl) E.g__law_joined pass0 (r_acons (r_var (pv 7)) (r_acons (r_var (pv 4)) r_anil))) (r_acons (r_var (pv 3)) r_anil)))) (r_scons (r_if (r_cmpT (c_eq hr.units) (r_var (pv 1)) r_str) (r_sone (r_ret (r_var (pv 8)))) r_snil) (r_sone (r_ret (r_add (r_callK (ok__law_joined E) (hr.mono (by decide)) (by rfl) E.g__law_joined pass0 (r_acons (r_var (pv 6)) (r_acons (r_var (pv 4)) r_anil))) (r_callK (ok__law_joined E) (hr.mono (by decide)) (by rfl) E.g__law_joined pass0 (r_acons (r_var (pv 8)) (r_acons (r_od (r_lst (r_acons (r_tup (r_acons (r_od (r_lst r_anil)) (r_acons (r_mul (r_var (pv 2)) (r_mod (r_int1 (by rfl) E.b_int (r_dp (r_fdiv (r_var (pv 5)) r_int))) r_int)) (r_acons r_int r_anil)))) r_anil))) r_anil))))))))))))
theorem sc__law_refusal : FnScope ["size", "poly", "e"] ["size", "poly"] (defScope (top 55)) := ⟨rfl, rfl, rfl, by decide +kernel, rfl, by decide +kernel, by decide +kernel⟩
theorem ok__law_refusal (E : Ev K mg cls) : DOk P w K mg base CX0 12 E.a__law_refusal ["size", "poly"] [] (spD ⟨P, w, K, cls⟩ 2 m__law_refusal) := by
  have nd := sc__law_refusal.nd
  refine dok_D E.f__law_refusal sc__law_refusal (fun _ _ _ _ _ _ us hl => match us, hl with | [_, _], _ => rfl) fun cdv A outer s0 H EX B hr => ?_
  exact (r_scons (r_tryK (hand := hand__law_refusal) (cs := [.ref (cls 2), .ref (cls 3), .type "ValueError"]) (ok_reduce_one E) (hr.mono (by decide)) (by rfl) E.g_reduce_one (by rfl) (by rfl) nd (by rfl) (by rfl) ⟨(by rfl), by decide, .inl E.g_TableError⟩ (catch__law_refusal E) (fun ad oe c pn hh hz hf => have hC := excC__law_refusal E hh; (pa_isC hC hz hf (by rfl) E.b_isinstance (pv 2) (pe_glob (by rfl) E.g_WrongSize (v := .ref (cls 2)) (by rfl)) (fun _ h => h) (pa_isC hC hz hf (by rfl) E.b_isinstance (pv 2) (pe_glob (by rfl) E.g_InvalidPolynomial (v := .ref (cls 3)) (by rfl)) (fun _ h => h) (pa_isC hC hz hf (by rfl) E.b_isinstance (pv 2) (pe_bltn (by rfl) E.b_ValueError (v := .ty "ValueError") (by rfl) (by rfl)) (fun _ h => h) pa_is0)))) (fun _ _ => (r_acons (r_var (pv 0)) (r_acons (r_var (pv 1)) r_anil))) (by simp)) (r_sone (r_ret (r_od (r_lst r_anil)))))
theorem sc__law_refuses : FnScope ["script", "poly", "kind", "menu", "size", "number", "wrong", "pair", "both"] ["script", "poly", "kind", "menu", "size"] (defScope (top 56)) := ⟨rfl, rfl, rfl, by decide +kernel, rfl, by decide +kernel, by decide +kernel⟩
theorem ok__law_refuses (E : Ev K mg cls) : DOk P w K mg base CX0 13 E.a__law_refuses ["script", "poly", "kind", "menu", "size"] [] (spD ⟨P, w, K, cls⟩ 5 m__law_refuses) := by
  have nd := sc__law_refuses.nd
  refine dok_D E.f__law_refuses sc__law_refuses (fun _ _ _ _ _ _ us hl => match us, hl with | [_, _, _, _, _], _ => rfl) fun cdv A outer s0 H EX B hr => ?_
  exact (r_scons (r_set (g := fun {_} h => ps_set (i := 5) nd rfl (by first | exact Or.inl rfl | exact Or.inr rfl) h) (r_callK (ok__law_number E) (hr.mono (by decide)) (by rfl) E.g__law_number pass0 (r_acons (r_var (pv 0)) (r_acons r_int r_anil)))) (r_scons (r_set (g := fun {_} h => ps_set (i := 6) nd rfl (by first | exact Or.inl rfl | exact Or.inr rfl) h) (r_ix (r_od (r_lst (r_acons r_int (r_acons r_int (r_acons (r_neg r_int) (r_acons (r_pow r_int r_int) r_anil)))))) (r_mod (r_int1 (by rfl) E.b_int (r_dp (r_var (pv 5)))) r_int))) (r_scons (r_set (g := fun {_} h => ps_set (i := 7) nd rfl (by first | exact Or.inl rfl | exact Or.inr rfl) h) (r_od (r_lst (r_acons (r_ix (r_var (pv 3)) r_int) (r_acons (r_ix (r_var (pv 3)) r_int) r_anil))))) (r_scons (r_if (r_cmpT (c_eq hr.units) (r_mod (r_int1 (by rfl) E.b_int (r_dp (r_fdiv (r_var (pv 5)) r_int))) r_int) r_int) (r_sone (r_set (g := fun {_} h => ps_set (i := 7) nd rfl (by first | exact Or.inl rfl | exact Or.inr rfl) h) (r_od (r_lst (r_acons (r_add (r_mul (r_ix (r_var (pv 3)) r_int) r_int) (r_ix (r_var (pv 3)) r_int)) r_anil))))) r_snil) (r_scons (r_set (g := fun {_} h => ps_set (i := 8) nd rfl (by first | exact Or.inl rfl | exact Or.inr rfl) h) (r_ownK (ok_Poly___add__ E) E.me_1___add__ E.sf_1 (hr.mono (by decide)) pass0 (r_var (pv 1)) (r_od (r_makeK (ok_Poly___init__ E) E.mk_1 (hr.mono (by decide)) (by rfl) E.g_Poly (fun _ => IsL.nil) pass0 (r_acons (r_var (pv 2)) (r_acons (r_od (r_lst (r_acons (r_tup (r_acons (r_var (pv 7)) (r_acons r_str (r_acons (r_od (r_makeK (ok_Ratio___init___2 E) E.mk_0 (hr.mono (by decide)) (by rfl) E.g_Ratio (fun _ => IsL.nil) pass0 (r_acons (r_add r_int (r_mod (r_int1 (by rfl) E.b_int (r_dp (r_fdiv (r_var (pv 5)) r_int))) r_int)) (r_acons r_int r_anil)))) r_anil)))) r_anil))) r_anil)))))) (r_scons (r_if (r_tw (r_tor (r_cmpT (c_ne hr.units) (r_callK (ok__law_refusal E) (hr.mono (by decide)) (by rfl) E.g__law_refusal pass0 (r_acons (r_var (pv 6)) (r_acons (r_var (pv 1)) r_anil))) (r_od (r_lst (r_acons r_bl (r_acons r_bl (r_acons r_bl r_anil)))))) (r_tor1 (r_cmpT (c_ne hr.units) (r_callK (ok__law_refusal E) (hr.mono (by decide)) (by rfl) E.g__law_refusal pass0 (r_acons (r_var (pv 6)) (r_acons (r_var (pv 8)) r_anil))) (r_od (r_lst (r_acons r_bl (r_acons r_bl (r_acons r_bl r_anil))))))))) (r_sone (r_ret r_bl)) r_snil) (r_sone (r_ret (r_cmpV (c_eq hr.units) (r_callK (ok__law_refusal E) (hr.mono (by decide)) (by rfl) E.g__law_refusal pass0 (r_acons (r_var (pv 4)) (r_acons (r_var (pv 8)) r_anil))) (r_od (r_lst (r_acons r_bl (r_acons r_bl (r_acons r_bl r_anil))))))))))))))
theorem sc_law : FnScope ["script", "number", "kind", "size", "other", "over", "menu", "letter", "many", "scale", "terms", "poly", "answer", "square", "zero", "same", "plain", "row"] ["script"] (defScope (top 57)) := ⟨rfl, rfl, rfl, by decide +kernel, rfl, by decide +kernel, by decide +kernel⟩
theorem body_law (E : Ev K mg cls) (cdv : Value) (A : Around) (outer : List Env) (s0 : Shared) (H : Hp) (EX : XK) (B : Base) (hr : Room 13 (A.deeper (envOfC "law" (defScope (top 57)) s0.heap.objs.size E.a_law cdv))) :
    PSs (cxOf CX0 P w K mg base ["script", "number", "kind", "size", "other", "over", "menu", "letter", "many", "scale", "terms", "poly", "answer", "square", "zero", "same", "plain", "row"] "law" (defScope (top 57)) E.a_law cdv A outer s0 H EX).nox (defBody (top 57)) (tS ⟨P, w, K, cls⟩ B W0 d_law) := by
  have nd := sc_law.nd
  exact (r_scons (r_set (g := fun {_} h => ps_set (i := 1) nd rfl (by first | exact Or.inl rfl | exact Or.inr rfl) h) (r_callK (ok__law_number E) (hr.mono (by decide)) (by rfl) E.g__law_number pass0 (r_acons (r_var (pv 0)) (r_acons r_int r_anil)))) (r_scons (r_set (g := fun {_} h => ps_set (i := 2) nd rfl (by first | exact Or.inl rfl | exact Or.inr rfl) h) (r_ix (r_od (r_lst (r_acons r_str (r_acons r_str r_anil)))) (r_mod (r_int1 (by rfl) E.b_int (r_dp (r_var (pv 1)))) r_int))) (r_scons (r_set (g := fun {_} h => ps_set (i := 3) nd rfl (by first | exact Or.inl rfl | exact Or.inr rfl) h) (r_ix (r_od (r_lst (r_acons r_int (r_acons r_int (r_acons r_int (r_acons r_int (r_acons r_int r_anil))))))) (r_mod (r_int1 (by rfl) E.b_int (r_dp (r_fdiv (r_var (pv 1)) r_int))) r_int))) (r_scons (r_set (g := fun {_} h => ps_set (i := 4) nd rfl (by first | exact Or.inl rfl | exact Or.inr rfl) h) (r_add r_int (r_mod (r_int1 (by rfl) E.b_int (r_dp (r_fdiv (r_var (pv 1)) r_int))) r_int))) (r_scons (r_set (g := fun {_} h => ps_set (i := 5) nd rfl (by first | exact Or.inl rfl | exact Or.inr rfl) h) (r_add r_int (r_mod (r_int1 (by rfl) E.b_int (r_dp (r_fdiv (r_var (pv 1)) r_int))) r_int))) (r_scons (r_set (g := fun {_} h => ps_set (i := 6) nd rfl (by first | exact Or.inl rfl | exact Or.inr rfl) h) (r_callK (ok__law_menu E) (hr.mono (by decide)) (by rfl) E.g__law_menu pass0 (r_acons (r_callK (ok__law_number E) (hr.mono (by decide)) (by rfl) E.g__law_number pass0 (r_acons (r_var (pv 0)) (r_acons r_int r_anil))) r_anil))) (r_scons (r_set (g := fun {_} h => ps_set (i := 7) nd rfl (by first | exact Or.inl rfl | exact Or.inr rfl) h) (r_ix (r_var (pv 6)) r_int)) (r_scons (r_set (g := fun {_} h => ps_set (i := 8) nd rfl (by first | exact Or.inl rfl | exact Or.inr rfl) h) (r_ix (r_od (r_lst (r_acons r_int (r_acons r_int (r_acons r_int (r_acons r_int (r_acons r_int (r_acons r_int (r_acons r_int r_anil))))))))) (r_mod (r_int1 (by rfl) E.b_int (r_dp (r_fdiv (r_var (pv 1)) r_int))) r_int))) (r_scons (r_set (g := fun {_} h => ps_set (i := 9) nd rfl (by first | exact Or.inl rfl | exact Or.inr rfl) h) (r_ix (r_od (r_lst (r_acons r_int (r_acons r_int (r_acons r_int (r_acons r_int (r_acons r_int (r_acons (r_add (r_pow r_int r_int) r_int) r_anil)))))))) (r_mod (r_int1 (by rfl) E.b_int (r_dp (r_fdiv (r_var (pv 1)) r_int))) r_int))) (r_scons (r_setLc (i := 10) (by rfl) nd (by rfl) (by rfl) (sw_true (by rfl) (by rfl) (by rfl) (by decide +kernel)) (r_iter (r_callK (ok__law_powers E) (hr.mono (by decide)) (by rfl) E.g__law_powers pass0 (r_acons (r_var (pv 0)) (r_acons r_int (r_acons (r_var (pv 8)) (r_acons (r_od (r_lst (r_acons r_int (r_acons r_int (r_acons r_int (r_acons r_int (r_acons r_int (r_acons r_int (r_acons r_int (r_acons r_int (r_acons r_int (r_acons r_int r_anil)))))))))))) (r_acons (r_var (pv 7)) (r_acons (r_var (pv 2)) r_anil)))))))) (blkOk_by (own := [("row", 17)]) (by kernel_rfl)) (by decide) (fun _ _ _ _ _ => (r_tgn (pg_name nd rfl (by first | exact Or.inl rfl | exact Or.inr rfl)))) (fun _ _ _ _ _ => r_ifs0) (fun _ _ _ _ _ => (r_tup (r_acons (r_ix (r_var (pv 17)) r_int) (r_acons (r_ix (r_var (pv 17)) r_int) (r_acons (r_mul (r_ix (r_var (pv 17)) r_int) (r_var (pv 9))) r_anil)))))) (r_scons (r_if (r_tw (r_tand (r_cmpT (c_lt) (r_var (pv 3)) r_int) (r_tand (r_cmpT (c_lt) (r_var (pv 4)) r_int) (r_tand1 (r_cmpT (c_eq hr.units) (r_mod (r_int1 (by rfl) E.b_int (r_dp (r_callK (ok__law_number E) (hr.mono (by decide)) (by rfl) E.g__law_number pass0 (r_acons (r_var (pv 0)) (r_acons r_int r_anil))))) r_int) r_int))))) (r_sone (r_frz (i := 10) (r_set (g := fun {_} h => ps_set (i := 10) nd rfl (by first | exact Or.inl rfl | exact Or.inr rfl) h) (r_add (r_var (pv 10)) (r_callK (ok__law_powers E) (hr.mono (by decide)) (by rfl) E.g__law_powers pass0 (r_acons (r_var (pv 0)) (r_acons r_int (r_acons r_int (r_acons (r_ix (r_od (r_lst (r_acons (r_od (r_lst (r_acons r_int (r_acons r_int (r_acons r_int (r_acons r_int r_anil)))))) (r_acons (r_od (r_lst (r_acons r_int (r_acons r_int (r_acons r_int (r_acons r_int r_anil)))))) r_anil)))) (r_sub (r_max2 (by rfl) (by rfl) E.b_max (r_acons (r_var (pv 3)) (r_acons (r_var (pv 4)) r_anil))) r_int)) (r_acons (r_var (pv 7)) (r_acons (r_var (pv 2)) r_anil))))))))))) r_snil) (r_scons (r_frz (i := 10) (r_set (g := fun {_} h => ps_set (i := 11) nd rfl (by first | exact Or.inl rfl | exact Or.inr rfl) h) (r_callK (ok__law_poly E) (hr.mono (by decide)) (by rfl) E.g__law_poly pass0 (r_acons (r_var (pv 2)) (r_acons (r_var (pv 10)) (r_acons (r_var (pv 5)) r_anil)))))) (r_scons (r_if (r_tnot (r_tval (r_callK (ok__law_refuses E) (hr.mono (by decide)) (by rfl) E.g__law_refuses pass0 (r_acons (r_var (pv 0)) (r_acons (r_var (pv 11)) (r_acons (r_var (pv 2)) (r_acons (r_var (pv 6)) (r_acons (r_var (pv 3)) r_anil)))))))) (r_sone (r_ret r_bl)) r_snil) (r_scons (r_set (g := fun {_} h => ps_set (i := 12) nd rfl (by first | exact Or.inl rfl | exact Or.inr rfl) h) (r_callK (ok_reduce_one E).toD (hr.mono (by decide)) (by rfl) E.g_reduce_one passL (r_acons (r_var (pv 3)) (r_acons (r_var (pv 11)) r_anil)))) (r_scons (r_set (g := fun {_} h => ps_set (i := 13) nd rfl (by first | exact Or.inl rfl | exact Or.inr rfl) h) (r_callK (ok__law_matrix E) (hr.mono (by decide)) (by rfl) E.g__law_matrix pass0 (r_acons (r_callK (ok__law_number E) (hr.mono (by decide)) (by rfl) E.g__law_number pass0 (r_acons (r_var (pv 0)) (r_acons r_int r_anil))) (r_acons (r_var (pv 3)) (r_acons r_int r_anil))))) (r_scons (r_if (r_tnot (r_tval (r_callK (ok__law_value_stays E) (hr.mono (by decide)) (by rfl) E.g__law_value_stays pass0 (r_acons (r_var (pv 12)) (r_acons (r_var (pv 2)) (r_acons (r_var (pv 10)) (r_acons (r_var (pv 5)) (r_acons (r_var (pv 7)) (r_acons (r_var (pv 3)) (r_acons (r_var (pv 13)) r_anil)))))))))) (r_sone (r_ret r_bl)) r_snil) (r_scons (r_set (g := fun {_} h => ps_set (i := 13) nd rfl (by first | exact Or.inl rfl | exact Or.inr rfl) h) (r_callK (ok__law_matrix E) (hr.mono (by decide)) (by rfl) E.g__law_matrix pass0 (r_acons (r_callK (ok__law_number E) (hr.mono (by decide)) (by rfl) E.g__law_number pass0 (r_acons (r_var (pv 0)) (r_acons r_int r_anil))) (r_acons (r_var (pv 4)) (r_acons r_int r_anil))))) (r_scons (r_if (r_tnot (r_tval (r_callK (ok__law_value_stays E) (hr.mono (by decide)) (by rfl) E.g__law_value_stays pass0 (r_acons (r_callK (ok_reduce_one E).toD (hr.mono (by decide)) (by rfl) E.g_reduce_one passL (r_acons (r_var (pv 4)) (r_acons (r_var (pv 11)) r_anil))) (r_acons (r_var (pv 2)) (r_acons (r_var (pv 10)) (r_acons (r_var (pv 5)) (r_acons (r_var (pv 7)) (r_acons (r_var (pv 4)) (r_acons (r_var (pv 13)) r_anil)))))))))) (r_sone (r_ret r_bl)) r_snil) (r_scons (r_set (g := fun {_} h => ps_set (i := 14) nd rfl (by first | exact Or.inl rfl | exact Or.inr rfl) h) (r_callK (ok__law_poly E) (hr.mono (by decide)) (by rfl) E.g__law_poly pass0 (r_acons (r_var (pv 2)) (r_acons (r_callK (ok__law_nothing E) (hr.mono (by decide)) (by rfl) E.g__law_nothing pass0 (r_acons (r_var (pv 0)) (r_acons (r_var (pv 2)) (r_acons (r_var (pv 7)) (r_acons (r_var (pv 3)) r_anil))))) (r_acons r_int r_anil))))) (r_scons (r_for PassesOwn.never (by rfl) (r_iter (r_od (r_lst (r_acons (r_var (pv 11)) (r_acons (r_ownK (ok_Poly___add__ E) E.me_1___add__ E.sf_1 (hr.mono (by decide)) pass0 (r_var (pv 11)) (r_var (pv 14))) (r_acons (r_ownK (ok_Poly___add__ E) E.me_1___add__ E.sf_1 (hr.mono (by decide)) pass0 (r_var (pv 14)) (r_var (pv 11))) (r_acons (r_var (pv 12)) r_anil))))))) (r_tgn (pg_name nd rfl (by first | exact Or.inl rfl | exact Or.inr rfl))) (r_sone (r_if (r_tnot (r_tval (r_callK (ok__law_equal E) (hr.mono (by decide)) (by rfl) E.g__law_equal pass0 (r_acons (r_var (pv 12)) (r_acons (r_callK (ok_reduce_one E).toD (hr.mono (by decide)) (by rfl) E.g_reduce_one passL (r_acons (r_var (pv 3)) (r_acons (r_var (pv 15)) r_anil))) r_anil))))) (r_sone (r_ret r_bl)) r_snil))) (r_scons (r_if (r_cmpT (c_ne hr.units) (r_lenOK (ok_Poly___len__ E) E.me_1___len__ (hr.mono (by decide)) pass0 (r_callK (ok_reduce_one E).toD (hr.mono (by decide)) (by rfl) E.g_reduce_one passL (r_acons (r_var (pv 3)) (r_acons (r_var (pv 14)) r_anil))) (by rfl) E.b_len) r_int) (r_sone (r_ret r_bl)) r_snil) (r_scons (r_set (g := fun {_} h => ps_set (i := 16) nd rfl (by first | exact Or.inl rfl | exact Or.inr rfl) h) (r_statK (ok_Poly_constant E) E.sm_1_constant (by rfl) E.g_Poly (hr.mono (by decide)) pass0 (r_acons (r_var (pv 2)) (r_acons (r_od (r_makeK (ok_Ratio___init___2 E) E.mk_0 (hr.mono (by decide)) (by rfl) E.g_Ratio (fun _ => IsL.nil) pass0 (r_acons (r_sub (r_mod (r_int1 (by rfl) E.b_int (r_dp (r_callK (ok__law_number E) (hr.mono (by decide)) (by rfl) E.g__law_number pass0 (r_acons (r_var (pv 0)) (r_acons r_int r_anil))))) r_int) r_int) (r_acons (r_var (pv 5)) r_anil)))) r_anil)))) (r_scons (r_if (r_tnot (r_tval (r_callK (ok__law_equal E) (hr.mono (by decide)) (by rfl) E.g__law_equal pass0 (r_acons (r_var (pv 16)) (r_acons (r_callK (ok_reduce_one E).toD (hr.mono (by decide)) (by rfl) E.g_reduce_one passL (r_acons (r_var (pv 3)) (r_acons (r_var (pv 16)) r_anil))) r_anil))))) (r_sone (r_ret r_bl)) r_snil) (r_sone (r_ret (r_callK (ok__law_same_poly E) (hr.mono (by decide)) (by rfl) E.g__law_same_poly pass0 (r_acons (r_var (pv 11)) (r_acons (r_var (pv 2)) (r_acons (r_callK (ok__law_rows E) (hr.mono (by decide)) (by rfl) E.g__law_rows pass0 (r_acons (r_var (pv 10)) r_anil)) (r_acons (r_var (pv 5)) r_anil))))))))))))))))))))))))))))))
theorem ok_law (E : Ev K mg cls) : DOk P w K mg base CX0 14 E.a_law ["script"] [] (spD ⟨P, w, K, cls⟩ 1 m_law) := by
  have nd := sc_law.nd
  refine dok_D E.f_law sc_law (fun _ _ _ _ _ _ us hl => match us, hl with | [_], _ => rfl) fun cdv A outer s0 H EX B hr => ?_
  exact body_law E cdv A outer s0 H EX B hr
end
end Pd73

/-! k73: the head: facts by names, the run (printed by ktgen.py). -/
namespace Pd73
open PySem PySem.Spec PyProof.Rows L2 Pd
abbrev clsK (K : PySem.W.Frag) : Nat → Addr
  | 0 => He.ga K "Ratio"
  | 1 => He.ga K "Poly"
  | 2 => He.ga K "WrongSize"
  | 3 => He.ga K "InvalidPolynomial"
  | _ => He.ga K "TableError"
def evOf {K : PySem.W.Frag} {h : Heap} {mg : Str → Option Value} (X : K.In h) (G : h.Ns mainGlobals mg) (c : SaysP K) : Ev K mg (clsK K) :=
  {a_Ratio___init__ := (He.ma K (He.ga K "Ratio") "__init__"),
    a_Ratio___add__ := (He.ma K (He.ga K "Ratio") "__add__"),
    a_Ratio___sub__ := (He.ma K (He.ga K "Ratio") "__sub__"),
    a_Ratio___mul__ := (He.ma K (He.ga K "Ratio") "__mul__"),
    a_Ratio___neg__ := (He.ma K (He.ga K "Ratio") "__neg__"),
    a_Ratio___bool__ := (He.ma K (He.ga K "Ratio") "__bool__"),
    a_check_size := (He.ga K "check_size"),
    a_least_rotation := (He.ga K "least_rotation"),
    a_term_key := (He.ga K "term_key"),
    a_content_of := (He.ga K "content_of"),
    a_Poly___init__ := (He.ma K (He.ga K "Poly") "__init__"),
    a_poly_of := (He.ga K "poly_of"),
    a_same_kind := (He.ga K "same_kind"),
    a_Poly_constant := (He5.wf K (He.ga K "Poly") "staticmethod" "constant"),
    a_Poly_degree := (He5.wf K (He.ga K "Poly") "property" "degree"),
    a_Poly___add__ := (He.ma K (He.ga K "Poly") "__add__"),
    a_Poly_scaled := (He.ma K (He.ga K "Poly") "scaled"),
    a_Poly___neg__ := (He.ma K (He.ga K "Poly") "__neg__"),
    a_Poly___sub__ := (He.ma K (He.ga K "Poly") "__sub__"),
    a_Poly___mul__ := (He.ma K (He.ga K "Poly") "__mul__"),
    a_Poly___len__ := (He.ma K (He.ga K "Poly") "__len__"),
    a_Poly___getitem__ := (He.ma K (He.ga K "Poly") "__getitem__"),
    a_Poly_used_letters := (He.ma K (He.ga K "Poly") "used_letters"),
    a_power_trace := (He.ga K "power_trace"),
    a_letter_power := (He.ga K "letter_power"),
    q_1_constant := (He.ma K (He.ga K "Poly") "constant"),
    a_elementary := (He.ga K "elementary"),
    a_only_letter := (He.ga K "only_letter"),
    a_continued := (He.ga K "continued"),
    q_1_degree := (He.ma K (He.ga K "Poly") "degree"),
    a_reduce_one := (He.ga K "reduce_one"),
    a__law_cell := (He.ga K "_law_cell"),
    a__law_number := (He.ga K "_law_number"),
    a__law_menu := (He.ga K "_law_menu"),
    a__law_matrix := (He.ga K "_law_matrix"),
    a__law_times := (He.ga K "_law_times"),
    a__law_one := (He.ga K "_law_one"),
    a__law_in_one := (He.ga K "_law_in_one"),
    a__law_poly := (He.ga K "_law_poly"),
    a__law_same_number := (He.ga K "_law_same_number"),
    a__law_key := (He.ga K "_law_key"),
    a__law_rows := (He.ga K "_law_rows"),
    a__law_same_poly := (He.ga K "_law_same_poly"),
    a__law_joined := (He.ga K "_law_joined"),
    a__law_closed := (He.ga K "_law_closed"),
    a__law_cut := (He.ga K "_law_cut"),
    a__law_powers := (He.ga K "_law_powers"),
    a__law_newton := (He.ga K "_law_newton"),
    a__law_own := (He.ga K "_law_own"),
    a__law_equal := (He.ga K "_law_equal"),
    a__law_is_short := (He.ga K "_law_is_short"),
    a__law_value_stays := (He.ga K "_law_value_stays"),
    a__law_nothing := (He.ga K "_law_nothing"),
    a__law_refusal := (He.ga K "_law_refusal"),
    a__law_refuses := (He.ga K "_law_refuses"),
    a_law := (He.ga K "law"),
    t_SIZES_a := (He.ga K "SIZES"),
    g_gcd := PySem.W.mg_of X G (He.eqO_ok (c.ext 0)),
    c_0 := He.cls_ok (c.fact 1 (f := .cls "Ratio")),
    na_0_num := He.noat_ok (c.fact 2 (f := .noat "Ratio" "num")),
    na_0_den := He.noat_ok (c.fact 3 (f := .noat "Ratio" "den")),
    f_Ratio___init__ := c.def_ 0,
    b_isinstance := He.free_ok X G (c.fact 4 (f := .free "isinstance")),
    is_0 := ⟨He.cls_ok (c.fact 1 (f := .cls "Ratio")), He.eqO_ok (c.ext 1), He.eqO_ok (c.ext 2), of_decide_eq_true (c.ext 3), of_decide_eq_true (c.ext 4)⟩,
    g_Ratio := He.glo_ok X G (c.fact 5 (f := .glo "Ratio")),
    mk_0 := He.mkr_ok (c.fact 6 (f := .mkr "Ratio")),
    f_Ratio___add__ := c.def_ 1,
    f_Ratio___sub__ := c.def_ 2,
    f_Ratio___mul__ := c.def_ 3,
    f_Ratio___neg__ := c.def_ 4,
    b_bool := He.free_ok X G (c.fact 7 (f := .free "bool")),
    f_Ratio___bool__ := c.def_ 5,
    t_SIZES_g := He.glo_ok X G (c.fact 8 (f := .glo "SIZES")),
    t_SIZES_s := He.tupB_ok (vs := [.int 1, .int 2, .int 3]) (c.ext 5),
    ex_2 := (He.exc_ok (c.fact 9 (f := .exc "WrongSize"))).1,
    ex_2_k := (He.exc_ok (c.fact 9 (f := .exc "WrongSize"))).2.1,
    ex_2_s := (He.exc_ok (c.fact 9 (f := .exc "WrongSize"))).2.2.1,
    ex_2_t := (He.exc_ok (c.fact 9 (f := .exc "WrongSize"))).2.2.2,
    g_WrongSize := He.glo_ok X G (c.fact 10 (f := .glo "WrongSize")),
    f_check_size := c.def_ 6,
    b_min := He.free_ok X G (c.fact 11 (f := .free "min")),
    b_len := He.free_ok X G (c.fact 12 (f := .free "len")),
    b_range := He.free_ok X G (c.fact 13 (f := .free "range")),
    f_least_rotation := c.def_ 7,
    b_tuple := He.free_ok X G (c.fact 14 (f := .free "tuple")),
    b_sorted := He.free_ok X G (c.fact 15 (f := .free "sorted")),
    g_least_rotation := He.glo_ok X G (c.fact 16 (f := .glo "least_rotation")),
    f_term_key := c.def_ 8,
    f_content_of := c.def_ 9,
    g_term_key := He.glo_ok X G (c.fact 17 (f := .glo "term_key")),
    me_0___add__ := He.meth_ok (c.fact 18 (f := .meth "Ratio" "__add__")),
    sf_0 := (c.ext 6),
    c_1 := He.cls_ok (c.fact 19 (f := .cls "Poly")),
    na_1_kind := He.noat_ok (c.fact 20 (f := .noat "Poly" "kind")),
    me_0___bool__ := He.meth_ok (c.fact 21 (f := .meth "Ratio" "__bool__")),
    na_1_coefficients := He.noat_ok (c.fact 22 (f := .noat "Poly" "coefficients")),
    na_1_terms := He.noat_ok (c.fact 23 (f := .noat "Poly" "terms")),
    f_Poly___init__ := c.def_ 10,
    mk_1 := He.mkr_ok (c.fact 24 (f := .mkr "Poly")),
    g_Poly := He.glo_ok X G (c.fact 25 (f := .glo "Poly")),
    f_poly_of := c.def_ 11,
    f_same_kind := c.def_ 12,
    f_Poly_constant := c.def_ 13,
    b_max := He.free_ok X G (c.fact 26 (f := .free "max")),
    g_content_of := He.glo_ok X G (c.fact 27 (f := .glo "content_of")),
    f_Poly_degree := c.def_ 14,
    is_1 := ⟨He.cls_ok (c.fact 19 (f := .cls "Poly")), He.eqO_ok (c.ext 7), He.eqO_ok (c.ext 2), of_decide_eq_true (c.ext 3), of_decide_eq_true (c.ext 8)⟩,
    g_same_kind := He.glo_ok X G (c.fact 28 (f := .glo "same_kind")),
    g_poly_of := He.glo_ok X G (c.fact 29 (f := .glo "poly_of")),
    f_Poly___add__ := c.def_ 15,
    me_0___mul__ := He.meth_ok (c.fact 30 (f := .meth "Ratio" "__mul__")),
    f_Poly_scaled := c.def_ 16,
    me_1_scaled := He.meth_ok (c.fact 31 (f := .meth "Poly" "scaled")),
    f_Poly___neg__ := c.def_ 17,
    me_1___neg__ := He.meth_ok (c.fact 32 (f := .meth "Poly" "__neg__")),
    me_1___add__ := He.meth_ok (c.fact 33 (f := .meth "Poly" "__add__")),
    sf_1 := (c.ext 9),
    f_Poly___sub__ := c.def_ 18,
    f_Poly___mul__ := c.def_ 19,
    f_Poly___len__ := c.def_ 20,
    f_Poly___getitem__ := c.def_ 21,
    b_set := He.free_ok X G (c.fact 34 (f := .free "set")),
    f_Poly_used_letters := c.def_ 22,
    f_power_trace := c.def_ 23,
    f_letter_power := c.def_ 24,
    sm_1_constant := ⟨(c.ext 11), He.eqO_ok (c.ext 12), (He5.wrapB_ok (c.ext 10)).1, (He5.wrapB_ok (c.ext 10)).2, (c.ext 13)⟩,
    g_power_trace := He.glo_ok X G (c.fact 35 (f := .glo "power_trace")),
    me_1___mul__ := He.meth_ok (c.fact 36 (f := .meth "Poly" "__mul__")),
    me_1___sub__ := He.meth_ok (c.fact 37 (f := .meth "Poly" "__sub__")),
    f_elementary := c.def_ 25,
    me_1_used_letters := He.meth_ok (c.fact 38 (f := .meth "Poly" "used_letters")),
    ex_3 := (He.exc_ok (c.fact 39 (f := .exc "InvalidPolynomial"))).1,
    ex_3_k := (He.exc_ok (c.fact 39 (f := .exc "InvalidPolynomial"))).2.1,
    ex_3_s := (He.exc_ok (c.fact 39 (f := .exc "InvalidPolynomial"))).2.2.1,
    ex_3_t := (He.exc_ok (c.fact 39 (f := .exc "InvalidPolynomial"))).2.2.2,
    g_InvalidPolynomial := He.glo_ok X G (c.fact 40 (f := .glo "InvalidPolynomial")),
    f_only_letter := c.def_ 26,
    b_list := He.free_ok X G (c.fact 41 (f := .free "list")),
    f_continued := c.def_ 27,
    g_check_size := He.glo_ok X G (c.fact 42 (f := .glo "check_size")),
    g_only_letter := He.glo_ok X G (c.fact 43 (f := .glo "only_letter")),
    g_elementary := He.glo_ok X G (c.fact 44 (f := .glo "elementary")),
    p_1_degree := ⟨He.eqO_ok (c.ext 14), He.eqO_ok (c.ext 15), of_decide_eq_true (c.ext 16), recAt_ok (c.ext 17)⟩,
    g_continued := He.glo_ok X G (c.fact 45 (f := .glo "continued")),
    g_letter_power := He.glo_ok X G (c.fact 46 (f := .glo "letter_power")),
    me_1___getitem__ := He.meth_ok (c.fact 47 (f := .meth "Poly" "__getitem__")),
    fi_a_Poly___getitem__ := (c.ext 18),
    f_reduce_one := c.def_ 28,
    f__law_cell := c.def_ 29,
    b_abs := He.free_ok X G (c.fact 48 (f := .free "abs")),
    g__law_cell := He.glo_ok X G (c.fact 49 (f := .glo "_law_cell")),
    b_int := He.free_ok X G (c.fact 50 (f := .free "int")),
    f__law_number := c.def_ 30,
    f__law_menu := c.def_ 31,
    f__law_matrix := c.def_ 32,
    b_sum := He.free_ok X G (c.fact 51 (f := .free "sum")),
    f__law_times := c.def_ 33,
    f__law_one := c.def_ 34,
    g__law_one := He.glo_ok X G (c.fact 52 (f := .glo "_law_one")),
    g__law_times := He.glo_ok X G (c.fact 53 (f := .glo "_law_times")),
    f__law_in_one := c.def_ 35,
    f__law_poly := c.def_ 36,
    f__law_same_number := c.def_ 37,
    f__law_key := c.def_ 38,
    g__law_key := He.glo_ok X G (c.fact 54 (f := .glo "_law_key")),
    f__law_rows := c.def_ 39,
    g__law_same_number := He.glo_ok X G (c.fact 55 (f := .glo "_law_same_number")),
    f__law_same_poly := c.def_ 40,
    f__law_joined := c.def_ 41,
    f__law_closed := c.def_ 42,
    f__law_cut := c.def_ 43,
    g__law_number := He.glo_ok X G (c.fact 56 (f := .glo "_law_number")),
    g__law_cut := He.glo_ok X G (c.fact 57 (f := .glo "_law_cut")),
    f__law_powers := c.def_ 44,
    f__law_newton := c.def_ 45,
    f__law_own := c.def_ 46,
    f__law_equal := c.def_ 47,
    f__law_is_short := c.def_ 48,
    g__law_is_short := He.glo_ok X G (c.fact 58 (f := .glo "_law_is_short")),
    g__law_own := He.glo_ok X G (c.fact 59 (f := .glo "_law_own")),
    g__law_in_one := He.glo_ok X G (c.fact 60 (f := .glo "_law_in_one")),
    f__law_value_stays := c.def_ 49,
    g__law_newton := He.glo_ok X G (c.fact 61 (f := .glo "_law_newton")),
    g__law_powers := He.glo_ok X G (c.fact 62 (f := .glo "_law_powers")),
    g__law_joined := He.glo_ok X G (c.fact 63 (f := .glo "_law_joined")),
    g__law_closed := He.glo_ok X G (c.fact 64 (f := .glo "_law_closed")),
    f__law_nothing := c.def_ 50,
    xc_2 := He.exm_ok (c.fact 65 (f := .exm "WrongSize" "TableError" true)),
    xc_2_i := of_decide_eq_true (c.ext 19),
    xc_2_c := ⟨He.eqO_ok (c.ext 20), He.eqO_ok (c.ext 21), of_decide_eq_true (c.ext 22), (c.ext 23), He.eqO_ok (c.ext 24), He.eqO_ok (c.ext 2), of_decide_eq_true (c.ext 3), of_decide_eq_true (c.ext 25)⟩,
    xc_3 := He.exm_ok (c.fact 66 (f := .exm "InvalidPolynomial" "TableError" true)),
    xc_3_i := of_decide_eq_true (c.ext 26),
    xc_3_c := ⟨He.eqO_ok (c.ext 27), He.eqO_ok (c.ext 28), of_decide_eq_true (c.ext 29), (c.ext 30), He.eqO_ok (c.ext 31), He.eqO_ok (c.ext 2), of_decide_eq_true (c.ext 3), of_decide_eq_true (c.ext 32)⟩,
    b_ValueError := He.free_ok X G (c.fact 67 (f := .free "ValueError")),
    g_reduce_one := He.glo_ok X G (c.fact 68 (f := .glo "reduce_one")),
    g_TableError := He.glo_ok X G (c.fact 69 (f := .glo "TableError")),
    f__law_refusal := c.def_ 51,
    g__law_refusal := He.glo_ok X G (c.fact 70 (f := .glo "_law_refusal")),
    f__law_refuses := c.def_ 52,
    g__law_menu := He.glo_ok X G (c.fact 71 (f := .glo "_law_menu")),
    g__law_poly := He.glo_ok X G (c.fact 72 (f := .glo "_law_poly")),
    g__law_refuses := He.glo_ok X G (c.fact 73 (f := .glo "_law_refuses")),
    g__law_matrix := He.glo_ok X G (c.fact 74 (f := .glo "_law_matrix")),
    g__law_value_stays := He.glo_ok X G (c.fact 75 (f := .glo "_law_value_stays")),
    g__law_nothing := He.glo_ok X G (c.fact 76 (f := .glo "_law_nothing")),
    g__law_equal := He.glo_ok X G (c.fact 77 (f := .glo "_law_equal")),
    me_1___len__ := He.meth_ok (c.fact 78 (f := .meth "Poly" "__len__")),
    g__law_rows := He.glo_ok X G (c.fact 79 (f := .glo "_law_rows")),
    g__law_same_poly := He.glo_ok X G (c.fact 80 (f := .glo "_law_same_poly")),
    f_law := c.def_ 53 }
end Pd73

set_option maxHeartbeats 0
/-! k73: the row holds, if the plain law does. -/
namespace Pd73
open PySem PySem.Spec PySem.W PyProof.Rows L2 Pd
def spLaw (K : PySem.W.Frag) : Sp := fun vs H Q _ => ∃ (a : Addr) (ns : List Int), vs = [.ref a] ∧ SqL K H a (ns.map V.int) ∧ ns.length ≤ 63 ∧ ∀ H', Q (.bl true) H'
theorem law_sp {P : Program} {w : World} {K : PySem.W.Frag} {cls : Nat → Addr} (plain : ∀ ns : List Int, ns.length ≤ 63 → m_law [.lst (ns.map D.int)] = some (.bl true)) {vs : List V} {H : Hp} {Q : VK} {E : XK} (h : spLaw K vs H Q E) : spD ⟨P, w, K, cls⟩ 1 m_law vs H Q E := by
  obtain ⟨a, ns, rfl, hS, hl, q⟩ := h
  refine ⟨H, [.lst (ns.map D.int)], .bl true, Same.refl H, IsL.cons ?_ IsL.nil, rfl, plain ns hl, fun F' H' v g i => ?_⟩
  · simp only [Is]
    exact ⟨a, _, rfl, hS, isl_int ns⟩
  · simp only [Is] at i
    subst i
    exact q H'
theorem facts {P : Program} {w : World} {K : PySem.W.Frag} {h : Heap} {mg : Str → Option Value} {f : Addr} (plain : ∀ ns : List Int, ns.length ≤ 63 → m_law [.lst (ns.map D.int)] = some (.bl true)) (X : K.In h) (G : h.Ns mainGlobals mg) (hfa : mg ("law" : Str) = some (.ref f)) (c : SaysP K) :
    ∃ fd : FuncData, (∀ (s : Shared) (v : Value), BindsTo s fd ⟨[v], []⟩ [("script", v)]) ∧ ∀ base : Heap, K.In base → base.Ns mainGlobals mg → FnOk P w K mg base CX0 14 f fd ["script"] (spLaw K) := by
  obtain ⟨fd, F⟩ := (evOf X G c).f_law
  have e := hfa.symm.trans (He.glo_ok X G (c.fact 0 (f := .glo "law") rfl))
  cases e
  have b := FunD.bindsA (ps := ["script"]) F fun _ _ _ _ _ _ us hl => match us, hl with | [_], _ => rfl
  exact ⟨fd, fun s v => b s [v] rfl, fun base _ _ => (fn_ok (He5.fun_of F) sc_law (body_law (evOf X G c))).imp fun vs H Q E h => law_sp plain h⟩
theorem holds_of (plain : ∀ ns : List Int, ns.length ≤ 63 → m_law [.lst (ns.map D.int)] = some (.bl true)) : PySem.Challenge.rw_kindsoftables_k73_reduced_one.Holds := by
  w_on; o_law
  refine HandSHeadRun.head_imp (r := R) (q := vw) (H := hk) (ob := ob) (M := 6000) (loose := looseA) (d := HandSHeadRun.topDef R.prog 57) (kwd := []) ob_eq
    run (by kernel_rfl) (by kernel_rfl) (by kernel_rfl) (by rfl) (by first | assumption | decide +kernel) (by decide +kernel) ⟨rfl, rfl, rfl, rfl, rfl, by decide +kernel⟩ ?hw ?hc
  case hw => w_witness2
  case hc =>
    refine L2.walk_ofE (l := PySem.Challenge.rw_kindsoftables_k73_reduced_one) (n := 63) (k := 14) (x := "script") (CX := L2.CX0) rfl (by decide) (by kernel_rfl) ⟨rfl, by decide, by decide⟩ ?F (fun _ _ _ _ z => z)
    intro w mg fa h Y G hmg0
    obtain ⟨K, KX, c⟩ := Y
    have hmg : mg ("law" : PySem.Str) = some (.ref fa) := by
      have e : (HandSHeadRun.topDef R.prog 57).name = ("law" : PySem.Str) := by kernel_rfl
      rw [← e]
      exact hmg0
    obtain ⟨fd, hb, hF⟩ := facts (P := (PySem.Challenge.rw_kindsoftables_k73_reduced_one).prog) (w := w) plain KX G hmg c
    exact ⟨K, fd, spLaw K, KX, hb, fun H a ns hl _ hS => ⟨a, ns, rfl, hS, hl, fun _ => rfl⟩, hF⟩
end Pd73

/-! k73, mathematics: keys, dicts as lists, orders of texts and keys. -/
namespace Pd73
open PySem PySem.Spec PyProof.Rows L2 Pd

/-- a key: cycles, word -/
abbrev KY := List Str × Str
def kD (k : KY) : D := .tup [.tup (k.1.map .str), .str k.2]
def kN (k : KY) : NestedKey := .tup [.tup (k.1.map .text), .text k.2]
theorem nkeys_str : ∀ l : List Str, nkeys (l.map D.str) = some (l.map NestedKey.text)
  | [] => rfl
  | x :: l => by rw [List.map_cons, nkeys, nkeys_str l]; rfl
theorem nkey_kD (k : KY) : nkey (kD k) = some (kN k) := by
  unfold kD kN
  simp only [nkey, nkeys, nkeys_str, Option.map_some]
theorem depth_text : ∀ l : List Str, NestedKey.depthAll (l.map NestedKey.text) = 0
  | [] => by simp [NestedKey.depthAll]
  | x :: l => by simp [NestedKey.depthAll, NestedKey.depth, depth_text l]
theorem kN_depth (k : KY) : (kN k).depth ≤ 8 := by
  simp [kN, NestedKey.depth, NestedKey.depthAll, depth_text]
theorem text_inj : ∀ {a b : List Str}, a.map NestedKey.text = b.map NestedKey.text → a = b
  | [], [], _ => rfl
  | [], _ :: _, h => by simp at h
  | _ :: _, [], h => by simp at h
  | x :: a, y :: b, h => by
    rw [List.map_cons, List.map_cons, List.cons.injEq, NestedKey.text.injEq] at h
    rw [h.1, text_inj h.2]
theorem kN_inj {j k : KY} (h : kN j = kN k) : j = k := by
  obtain ⟨a, b⟩ := j
  obtain ⟨c, d⟩ := k
  unfold kN at h
  simp only [NestedKey.tup.injEq, List.cons.injEq, NestedKey.text.injEq, and_true] at h
  rw [text_inj h.1, h.2]
theorem tkey_kD (k : KY) : tkey (kD k) = some (kN k) := by
  have h := nkey_kD k
  unfold kD at h ⊢
  unfold tkey
  simp only [h, if_pos (kN_depth k)]
theorem nkey_eq {j k : KY} : nkey (kD j) = some (kN k) ↔ j = k := by
  rw [nkey_kD]
  exact ⟨fun h => kN_inj (Option.some.inj h), fun h => by rw [h]⟩

/-! ### dicts as lists -/
section
variable {α : Type}
def look (k : KY) : List (KY × α) → Option α
  | [] => none
  | e :: l => if e.1 = k then some e.2 else look k l
def put (k : KY) (v : α) : List (KY × α) → List (KY × α)
  | [] => [(k, v)]
  | e :: l => if e.1 = k then (e.1, v) :: l else e :: put k v l
def dks (l : List (KY × α)) : List D := l.map fun e => kD e.1
def dvs (enc : α → D) (l : List (KY × α)) : List D := l.map fun e => enc e.2
theorem dks_length (l : List (KY × α)) : (dks l).length = l.length := by simp [dks]
theorem dvs_length (enc : α → D) (l : List (KY × α)) : (dvs enc l).length = l.length := by simp [dvs]
theorem getK_eq (enc : α → D) (k : KY) : ∀ l : List (KY × α), getK (kN k) (dks l) (dvs enc l) = (look k l).map enc
  | [] => rfl
  | e :: l => by
    show getK (kN k) (kD e.1 :: dks l) (enc e.2 :: dvs enc l) = _
    rw [getK, look]
    by_cases h : e.1 = k
    · rw [if_pos (nkey_eq.mpr h), if_pos h]; rfl
    · rw [if_neg (mt nkey_eq.mp h), if_neg h]; exact getK_eq enc k l
theorem putKs_eq (k : KY) (v : α) : ∀ {l : List (KY × α)}, putKs (kN k) (kD k) (dks l) = dks (put k v l)
  | [] => rfl
  | e :: l => by
    show putKs (kN k) (kD k) (kD e.1 :: dks l) = _
    rw [putKs, put]
    by_cases h : e.1 = k
    · rw [if_pos (nkey_eq.mpr h), if_pos h]; rfl
    · rw [if_neg (mt nkey_eq.mp h), if_neg h, putKs_eq k v]; rfl
theorem putVs_eq (enc : α → D) (k : KY) (v : α) : ∀ {l : List (KY × α)}, putVs (kN k) (enc v) (dks l) (dvs enc l) = dvs enc (put k v l)
  | [] => rfl
  | e :: l => by
    show putVs (kN k) (enc v) (kD e.1 :: dks l) (enc e.2 :: dvs enc l) = _
    rw [putVs, put]
    by_cases h : e.1 = k
    · rw [if_pos (nkey_eq.mpr h), if_pos h]; rfl
    · rw [if_neg (mt nkey_eq.mp h), if_neg h, putVs_eq enc k v]; rfl
theorem look_mem {k : KY} {v : α} : ∀ {l : List (KY × α)}, look k l = some v → (k, v) ∈ l
  | [], h => by cases h
  | e :: l, h => by
    unfold look at h
    split at h
    · rename_i q
      cases h
      rw [← q]
      exact List.mem_cons_self
    · exact List.mem_cons_of_mem _ (look_mem h)
theorem look_none_iff {k : KY} : ∀ {l : List (KY × α)}, look k l = none ↔ k ∉ l.map (·.1)
  | [] => by simp [look]
  | e :: l => by
    unfold look
    have ih := look_none_iff (k := k) (l := l)
    by_cases h : e.1 = k
    · simp [h]
    · rw [if_neg h, ih, List.map_cons, List.mem_cons, not_or]
      exact ⟨fun z => ⟨fun w => h w.symm, z⟩, fun z => z.2⟩
theorem mem_look : ∀ {l : List (KY × α)} {e : KY × α}, (l.map (·.1)).Nodup → e ∈ l → look e.1 l = some e.2
  | [], e, _, h => by cases h
  | x :: l, e, n, h => by
    rw [List.map_cons, List.nodup_cons] at n
    unfold look
    rcases List.mem_cons.mp h with z | z
    · rw [z, if_pos rfl]
    · have ne : ¬ x.1 = e.1 := fun w => n.1 (by rw [w]; exact List.mem_map.mpr ⟨e, z, rfl⟩)
      rw [if_neg ne]
      exact mem_look n.2 z
theorem nodup_of_keys : ∀ {l : List (KY × α)}, (l.map (·.1)).Nodup → l.Nodup
  | [], _ => List.nodup_nil
  | x :: l, n => by
    rw [List.map_cons, List.nodup_cons] at n
    exact List.nodup_cons.mpr ⟨fun h => n.1 (List.mem_map.mpr ⟨x, h, rfl⟩), nodup_of_keys n.2⟩
theorem put_keys (k : KY) (v : α) : ∀ (l : List (KY × α)) (j : KY), j ∈ (put k v l).map (·.1) → j ∈ l.map (·.1) ∨ j = k
  | [], j, h => by
    rw [put] at h
    exact .inr (by simpa using h)
  | e :: l, j, h => by
    unfold put at h
    split at h
    · exact .inl h
    · rw [List.map_cons, List.mem_cons] at h ⊢
      rcases h with h | h
      · exact .inl (.inl h)
      · rcases put_keys k v l j h with z | z
        · exact .inl (.inr z)
        · exact .inr z
theorem put_nodup (k : KY) (v : α) : ∀ {l : List (KY × α)}, (l.map (·.1)).Nodup → ((put k v l).map (·.1)).Nodup
  | [], _ => by simp [put]
  | e :: l, n => by
    unfold put
    split
    · exact n
    · rename_i q
      rw [List.map_cons, List.nodup_cons] at n ⊢
      refine ⟨fun h => ?_, put_nodup k v n.2⟩
      rcases put_keys k v l e.1 h with z | z
      · exact n.1 z
      · exact q z
end

/-! ### orders -/
def strLe (a b : Str) : Bool := !PySem.W.dataLt (.str b) (.str a)
def keyP (k : KY) : PyData := .tuple [.tuple (k.1.map .str), .str k.2]
def keyLe (a b : KY) : Bool := !PySem.W.dataLt (keyP b) (keyP a)
theorem strLe_total : PySem.W.TotalLe strLe := PySem.W.sortLe_total (listOrd itemOrd) false fun s : Str => PySem.W.keyToks (.str s)
theorem keyLe_total : PySem.W.TotalLe keyLe := PySem.W.sortLe_total (listOrd itemOrd) false fun k : KY => PySem.W.keyToks (keyP k)
theorem dpds_str : ∀ l : List Str, dpds (l.map D.str) = some (l.map PyData.str)
  | [] => rfl
  | x :: l => by rw [List.map_cons, dpds, dpds_str l]; rfl
theorem dpd_kD (k : KY) : dpd (kD k) = some (keyP k) := by
  unfold kD keyP
  simp only [dpd, dpds, dpds_str, Option.map_some]
theorem dpD_kD (k : KY) : dpD (kD k) = keyP k := by unfold dpD; rw [dpd_kD]; rfl
theorem dpD_str (s : Str) : dpD (.str s) = .str s := rfl
theorem sortD_str (l : List Str) : sortD (l.map D.str) = (l.mergeSort strLe).map D.str := by
  unfold sortD
  refine (List.map_mergeSort fun a _ b _ => ?_).symm
  rfl
theorem sortD_kD (l : List KY) : sortD (l.map kD) = (l.mergeSort keyLe).map kD := by
  unfold sortD
  refine (List.map_mergeSort fun a _ b _ => ?_).symm
  show (!PySem.W.dataLt (keyP b) (keyP a)) = (!PySem.W.dataLt (dpD (kD b)) (dpD (kD a)))
  rw [dpD_kD, dpD_kD]
theorem pdepth_strs : ∀ l : List Str, PyData.depthAll (l.map PyData.str) = 0
  | [] => by simp [PyData.depthAll]
  | x :: l => by simp [PyData.depthAll, PyData.depth, pdepth_strs l]
theorem alike_strs : ∀ a b : List Str, PySem.W.alikeAll (a.map PyData.str) (b.map PyData.str) = true
  | [], _ => by simp [PySem.W.alikeAll]
  | _ :: _, [] => by simp [PySem.W.alikeAll]
  | x :: a, y :: b => by
    have := alike_strs a b
    simp only [List.map_cons, PySem.W.alikeAll, PySem.W.alike, this, Bool.and_self]
theorem sortOk_str (l : List Str) : sortOk (l.map D.str) = true := by
  unfold sortOk
  rw [Bool.and_eq_true, Bool.and_eq_true, Bool.or_eq_true]
  refine ⟨⟨?_, ?_⟩, .inr ?_⟩
  · rw [List.all_eq_true]
    intro d hd
    obtain ⟨s, _, rfl⟩ := List.mem_map.mp hd
    rw [dpD_str]
    simp [dpd, PyData.depth]
  · rw [List.all_eq_true]
    intro d hd
    rw [List.all_eq_true]
    intro e he
    obtain ⟨s, _, rfl⟩ := List.mem_map.mp hd
    obtain ⟨t, _, rfl⟩ := List.mem_map.mp he
    rw [dpD_str, dpD_str]
    simp [PySem.W.alike]
  · rw [List.all_eq_true]
    intro d hd
    obtain ⟨s, _, rfl⟩ := List.mem_map.mp hd
    rw [dpD_str]
theorem keyP_depth (k : KY) : (keyP k).depth ≤ 8 := by
  simp [keyP, PyData.depth, PyData.depthAll, pdepth_strs]
theorem keyP_alike (a b : KY) : PySem.W.alike (keyP a) (keyP b) = true := by
  simp [keyP, PySem.W.alike, PySem.W.alikeAll, alike_strs]
theorem sortOk_kD (l : List KY) : sortOk (l.map kD) = true := by
  unfold sortOk
  rw [Bool.and_eq_true, Bool.and_eq_true, Bool.or_eq_true]
  refine ⟨⟨?_, ?_⟩, .inl ?_⟩
  · rw [List.all_eq_true]
    intro d hd
    obtain ⟨s, _, rfl⟩ := List.mem_map.mp hd
    rw [dpD_kD, dpd_kD]
    simp [keyP_depth]
  · rw [List.all_eq_true]
    intro d hd
    rw [List.all_eq_true]
    intro e he
    obtain ⟨s, _, rfl⟩ := List.mem_map.mp hd
    obtain ⟨t, _, rfl⟩ := List.mem_map.mp he
    rw [dpD_kD, dpD_kD]
    exact keyP_alike s t
  · rw [List.all_eq_true]
    intro d hd
    obtain ⟨s, _, rfl⟩ := List.mem_map.mp hd
    rw [dpD_kD]
    rfl
/-! toks of keys tell the keys -/
theorem toks_strs : ∀ {a b : List Str} {r t : List (Int ⊕ List Nat)}, PySem.W.keyToksAll (a.map PyData.str) ++ r = PySem.W.keyToksAll (b.map PyData.str) ++ t → a = b ∧ r = t
  | [], [], r, t, h => by simpa [PySem.W.keyToksAll] using h
  | [], y :: b, r, t, h => by simp [PySem.W.keyToksAll, PySem.W.keyToks] at h
  | x :: a, [], r, t, h => by simp [PySem.W.keyToksAll, PySem.W.keyToks] at h
  | x :: a, y :: b, r, t, h => by
    simp only [List.map_cons, PySem.W.keyToksAll, PySem.W.keyToks, List.cons_append, List.nil_append, List.cons.injEq, true_and, Sum.inr.injEq] at h
    obtain ⟨h1, h2⟩ := toks_strs h.2
    rw [PySem.W.str_of_cps h.1, h1]
    exact ⟨rfl, h2⟩
theorem keyToks_inj {j k : KY} (h : PySem.W.keyToks (keyP j) = PySem.W.keyToks (keyP k)) : j = k := by
  obtain ⟨a, v⟩ := j
  obtain ⟨b, w⟩ := k
  simp only [keyP, PySem.W.keyToks, PySem.W.keyToksAll, List.cons.injEq, true_and] at h
  obtain ⟨h1, h2⟩ := toks_strs h
  simp only [List.cons_append, List.nil_append, List.cons.injEq, true_and, Sum.inr.injEq] at h2
  rw [h1, PySem.W.str_of_cps h2.1]
theorem keyLe_anti {j k : KY} (h1 : keyLe j k = true) (h2 : keyLe k j = true) : j = k := by
  unfold keyLe at h1 h2
  rw [Bool.not_eq_true'] at h1 h2
  exact keyToks_inj ((listOrd itemOrd).total (PySem.W.keyToks (keyP j)) (PySem.W.keyToks (keyP k)) h2 h1)
theorem strLe_anti {s t : Str} (h1 : strLe s t = true) (h2 : strLe t s = true) : s = t := by
  unfold strLe at h1 h2
  rw [Bool.not_eq_true'] at h1 h2
  have h : PySem.W.keyToks (.str s) = PySem.W.keyToks (.str t) := (listOrd itemOrd).total (PySem.W.keyToks (.str s)) (PySem.W.keyToks (.str t)) h2 h1
  simp only [PySem.W.keyToks, List.cons.injEq, and_true, Sum.inr.injEq] at h
  exact PySem.W.str_of_cps h
end Pd73

/-! k73, mathematics: coefficients, sums, canonical lists. -/
namespace Pd73
open PySem PySem.Spec PyProof.Rows L2 Pd

/-- terms: key, coefficient -/
abbrev PL := List (KY × Rat)
/-- the coefficient at a key -/
def cf : PL → KY → Rat
  | [], _ => 0
  | e :: l, k => (if e.1 = k then e.2 else 0) + cf l k
def acc1 (l : PL) (e : KY × Rat) : PL := put e.1 (match look e.1 l with
  | some s => s + e.2
  | none => e.2) l
def acc (l m : PL) : PL := m.foldl acc1 l
theorem acc1_keys (l : PL) (e : KY × Rat) (k : KY) (h : k ∈ (acc1 l e).map (·.1)) : k ∈ l.map (·.1) ∨ k = e.1 := put_keys _ _ l k h
theorem acc1_nodup {l : PL} {e : KY × Rat} (n : (l.map (·.1)).Nodup) : ((acc1 l e).map (·.1)).Nodup := put_nodup _ _ n
theorem acc_keys {m : PL} : ∀ {l : PL} (k : KY), k ∈ (acc l m).map (·.1) → k ∈ l.map (·.1) ∨ k ∈ m.map (·.1) := by
  induction m with
  | nil => intro l k h; exact .inl h
  | cons e m ih =>
    intro l k h
    rcases ih (l := acc1 l e) k h with z | z
    · rcases acc1_keys l e k z with z | z
      · exact .inl z
      · exact .inr (by rw [z]; exact List.mem_cons_self)
    · exact .inr (List.mem_cons_of_mem _ z)
theorem acc_nodup {m : PL} : ∀ {l : PL}, (l.map (·.1)).Nodup → ((acc l m).map (·.1)).Nodup := by
  induction m with
  | nil => intro l n; exact n
  | cons e m ih => intro l n; exact ih (l := acc1 l e) (acc1_nodup n)
/-- the terms at the keys ks, zeros left out -/
def canK (l : PL) : List KY → PL
  | [] => []
  | k :: ks => match look k l with
    | some r => if r = 0 then canK l ks else (k, r) :: canK l ks
    | none => canK l ks
def canon (l : PL) : PL := canK l ((l.map (·.1)).mergeSort keyLe)
/-- canonical: ascending keys, no zeros -/
structure Can (l : PL) : Prop where
  nd : (l.map (·.1)).Nodup
  so : (l.map (·.1)).Pairwise fun a b => keyLe a b = true
  nz : ∀ e ∈ l, e.2 ≠ 0
theorem Can.nil : Can [] := ⟨List.nodup_nil, List.Pairwise.nil, fun e h => by cases h⟩
theorem canK_mem {l : PL} {k : KY} {r : Rat} : ∀ {ks : List KY}, (k, r) ∈ canK l ks ↔ k ∈ ks ∧ look k l = some r ∧ r ≠ 0
  | [] => by simp [canK]
  | j :: ks => by
    have ih := canK_mem (l := l) (k := k) (r := r) (ks := ks)
    unfold canK
    cases q : look j l with
    | none =>
      dsimp only
      rw [ih, List.mem_cons]
      constructor
      · rintro ⟨a, b, c⟩; exact ⟨.inr a, b, c⟩
      · rintro ⟨a | a, b, c⟩
        · rw [a, q] at b; cases b
        · exact ⟨a, b, c⟩
    | some s =>
      dsimp only
      by_cases z : s = 0
      · rw [if_pos z, ih, List.mem_cons]
        constructor
        · rintro ⟨a, b, c⟩; exact ⟨.inr a, b, c⟩
        · rintro ⟨a | a, b, c⟩
          · rw [a, q] at b; cases b; exact absurd z c
          · exact ⟨a, b, c⟩
      · rw [if_neg z, List.mem_cons, ih, List.mem_cons]
        constructor
        · rintro (a | ⟨a, b, c⟩)
          · cases a; exact ⟨.inl rfl, q, z⟩
          · exact ⟨.inr a, b, c⟩
        · rintro ⟨a | a, b, c⟩
          · rw [a, q] at b; cases b; exact .inl (by rw [a])
          · exact .inr ⟨a, b, c⟩
theorem canK_sub {l : PL} : ∀ ks : List KY, ((canK l ks).map (·.1)).Sublist ks
  | [] => by simp [canK]
  | j :: ks => by
    have ih := canK_sub (l := l) ks
    unfold canK
    cases look j l with
    | none => exact ih.trans (List.sublist_cons_self _ _)
    | some s =>
      dsimp only
      split
      · exact ih.trans (List.sublist_cons_self _ _)
      · exact List.Sublist.cons₂ _ ih
theorem canon_len (l : PL) : (canon l).length ≤ l.length := by
  have h := (canK_sub (l := l) ((l.map (·.1)).mergeSort keyLe)).length_le
  rw [List.length_map, List.length_mergeSort, List.length_map] at h
  exact h
theorem canon_can {l : PL} (n : (l.map (·.1)).Nodup) : Can (canon l) := by
  have p := List.mergeSort_perm (l.map (·.1)) keyLe
  have s := canK_sub (l := l) ((l.map (·.1)).mergeSort keyLe)
  refine ⟨(p.nodup_iff.mpr n).sublist s, (PySem.W.sort_pairwise keyLe_total _).sublist s, fun e he => ?_⟩
  obtain ⟨k, r⟩ := e
  exact (canK_mem.mp he).2.2
theorem canon_keys {l : PL} (k : KY) (h : k ∈ (canon l).map (·.1)) : k ∈ l.map (·.1) := by
  have p := List.mergeSort_perm (l.map (·.1)) keyLe
  exact p.mem_iff.mp ((canK_sub (l := l) ((l.map (·.1)).mergeSort keyLe)).subset h)
theorem cf_not {k : KY} : ∀ {l : PL}, k ∉ l.map (·.1) → cf l k = 0
  | [], _ => rfl
  | e :: l, h => by
    rw [List.map_cons, List.mem_cons, not_or] at h
    rw [cf, cf_not h.2, if_neg fun z => h.1 z.symm]
    exact Rat.add_zero 0
theorem cf_mem {e : KY × Rat} : ∀ {l : PL}, (l.map (·.1)).Nodup → e ∈ l → cf l e.1 = e.2
  | [], _, h => by cases h
  | x :: l, n, h => by
    rw [List.map_cons, List.nodup_cons] at n
    rw [cf]
    rcases List.mem_cons.mp h with z | z
    · rw [z, cf_not n.1, if_pos rfl]; exact Rat.add_zero _
    · have ne : ¬ x.1 = e.1 := fun w => n.1 (by rw [w]; exact List.mem_map.mpr ⟨e, z, rfl⟩)
      rw [if_neg ne, cf_mem n.2 z]; exact Rat.zero_add _
theorem cf_look {l : PL} (n : (l.map (·.1)).Nodup) (k : KY) : cf l k = (look k l).getD 0 := by
  cases q : look k l with
  | none => exact cf_not (look_none_iff.mp q)
  | some r => exact cf_mem n (look_mem q)
theorem Can.mem_iff {l : PL} (h : Can l) (k : KY) (r : Rat) : (k, r) ∈ l ↔ cf l k = r ∧ r ≠ 0 := by
  constructor
  · intro m; exact ⟨cf_mem h.nd m, h.nz _ m⟩
  · rintro ⟨e, z⟩
    rw [cf_look h.nd] at e
    cases q : look k l with
    | none => rw [q] at e; exact absurd e.symm z
    | some s =>
      rw [q] at e
      have e' : s = r := e
      rw [← e']
      exact look_mem q
theorem can_eq : ∀ {l m : PL}, Can l → Can m → (∀ e, e ∈ l ↔ e ∈ m) → l = m
  | [], [], _, _, _ => rfl
  | [], y :: m, _, _, h => by have := (h y).mpr List.mem_cons_self; cases this
  | x :: l, [], _, _, h => by have := (h x).mp List.mem_cons_self; cases this
  | x :: l, y :: m, a, b, h => by
    have na := a.nd
    have nb := b.nd
    have sa := a.so
    have sb := b.so
    rw [List.map_cons, List.nodup_cons] at na nb
    rw [List.map_cons, List.pairwise_cons] at sa sb
    have le1 : keyLe x.1 y.1 = true := by
      rcases List.mem_cons.mp ((h y).mpr List.mem_cons_self) with z | z
      · rw [z]; exact keyLe_total.refl _
      · exact sa.1 _ (List.mem_map.mpr ⟨y, z, rfl⟩)
    have le2 : keyLe y.1 x.1 = true := by
      rcases List.mem_cons.mp ((h x).mp List.mem_cons_self) with z | z
      · rw [z]; exact keyLe_total.refl _
      · exact sb.1 _ (List.mem_map.mpr ⟨x, z, rfl⟩)
    have ek := keyLe_anti le1 le2
    have exy : x = y := by
      rcases List.mem_cons.mp ((h x).mp List.mem_cons_self) with z | z
      · exact z
      · exact absurd (List.mem_map.mpr ⟨x, z, rfl⟩ : x.1 ∈ m.map (·.1)) (by rw [ek]; exact nb.1)
    subst exy
    have : l = m := can_eq ⟨na.2, sa.2, fun e he => a.nz e (List.mem_cons_of_mem _ he)⟩ ⟨nb.2, sb.2, fun e he => b.nz e (List.mem_cons_of_mem _ he)⟩ fun e => by
      constructor
      · intro he
        rcases List.mem_cons.mp ((h e).mp (List.mem_cons_of_mem _ he)) with z | z
        · subst z; exact absurd (List.mem_map.mpr ⟨e, he, rfl⟩) na.1
        · exact z
      · intro he
        rcases List.mem_cons.mp ((h e).mpr (List.mem_cons_of_mem _ he)) with z | z
        · subst z; exact absurd (List.mem_map.mpr ⟨e, he, rfl⟩) nb.1
        · exact z
    rw [this]
theorem Can.ext {l m : PL} (h : Can l) (g : Can m) (e : ∀ k, cf l k = cf m k) : l = m :=
  can_eq h g fun x => by
    obtain ⟨k, r⟩ := x
    rw [h.mem_iff, g.mem_iff, e]
end Pd73

/-! k73, mathematics: ratios. -/
namespace Pd73
open PySem PySem.Spec PyProof.Rows L2 Pd

/-- a ratio -/
def rD (q : Rat) : D := .obj 0 ["num", "den"] [.int q.num, .int q.den]
theorem lk_num (a b : D) : lookND "num" ["num", "den"] [a, b] = some a := by rfl
theorem lk_den (a b : D) : lookND "den" ["num", "den"] [a, b] = some b := by rfl
theorem pn1 : putN "num" [] = [("num" : Str)] := by rfl
theorem pn2 : putN "den" ["num"] = [("num" : Str), "den"] := by rfl
theorem pd1 (a : D) : putD "num" a [] [] = [a] := by rfl
theorem pd2 (a b : D) : putD "den" b ["num"] [a] = [a, b] := by rfl
theorem mkRat_parts (n : Int) {d : Int} (hd : 0 < d) : (mkRat n d.toNat).num = n / ((Nat.gcd n.natAbs d.natAbs : Nat) : Int) ∧ ((mkRat n d.toNat).den : Int) = d / ((Nat.gcd n.natAbs d.natAbs : Nat) : Int) := by
  obtain ⟨k, rfl⟩ : ∃ k : Nat, d = k := ⟨d.toNat, by omega⟩
  have hk : k ≠ 0 := by omega
  have h1 := Rat.num_mkRat n k
  have h2 := Rat.den_mkRat n k
  rw [if_neg hk] at h1 h2
  simp only [Int.toNat_natCast, Int.natAbs_natCast]
  rw [h1, h2, Nat.gcd_comm]
  exact ⟨rfl, by simp⟩
theorem Ratio_init {n d : Int} (hd : 0 < d) (hs : d.natAbs.log2 < 9000) : m_Ratio___init___2 [.int n, .int d] = some (rD (mkRat n d.toNat)) := by
  have hg : 0 < Nat.gcd n.natAbs d.natAbs := Nat.gcd_pos_of_pos_right _ (by omega)
  have hle : Nat.gcd n.natAbs d.natAbs ≤ d.natAbs := Nat.gcd_le_right _ (by omega)
  have hl : (Nat.gcd n.natAbs d.natAbs).log2 < 9000 := by
    refine Nat.lt_of_le_of_lt ?_ hs
    exact (Nat.le_log2 (by omega)).mpr (Nat.le_trans (Nat.log2_self_le (by omega)) hle)
  have z : ¬ d = 0 := by omega
  have z2 : ¬ d < 0 := by omega
  obtain ⟨p1, p2⟩ := mkRat_parts n hd
  unfold rD
  rw [p1, p2]
  simp [m_Ratio___init___2, d_Ratio___init___2, runD, runI, env0, dSeq, dNext, dIf, dRet, dRetN, dSet, dSetO, dDrop, dVar, dPk, dC, dBin, dB, dCons, dNil, dTup, dLst, dCall, dMake, dFld, dMap, dSelf, dNot, dAnd, dOr, dIfE, dAndV, dOrV, dNotV, dNeg, dIsO, dIsI, dTruI, dMeth, dProp, dNegO, dTruO, dLenO, dSubO, gOwn, dFrz, frz, dGcd, dMax2, gI, gIc, gIB, gLen, gAbs, gInt, gBool, gTuple, gList, gEqA, gEq, gLt, CDivW, z, z2, hg, hl, pn1, pn2, pd1, pd2]
theorem Ratio_init1 (n : Int) : m_Ratio___init___1 [.int n, .int 1] = some (rD n) := by
  have h : m_Ratio___init___1 [.int n, .int 1] = m_Ratio___init___2 [.int n, .int 1] := rfl
  rw [h, Ratio_init (by decide) (by decide)]
  have e : mkRat n (1 : Int).toNat = (n : Rat) := by
    rw [show (1 : Int).toNat = 1 from rfl, Rat.mkRat_one]
  rw [e]
/-- of moderate size -/
structure Ok (q : Rat) : Prop where
  n : q.num.natAbs < 2 ^ 4000
  d : q.den < 2 ^ 4000
theorem log_lt {a : Nat} {k : Nat} (hk : 0 < k) (h : a < 2 ^ k) : a.log2 < k := by
  by_cases z : a = 0
  · subst z; simpa using hk
  · exact (Nat.log2_lt z).mpr h
theorem mulW {i j : Int} {a b : Nat} (h1 : i.natAbs < 2 ^ a) (h2 : j.natAbs < 2 ^ b) (ha : 0 < a) (hb : 0 < b) (hab : a + b ≤ 1000000) : CMulW i j := by
  have := log_lt ha h1
  have := log_lt hb h2
  unfold CMulW
  omega
theorem ok_mul {a b : Nat} (h1 : a < 2 ^ 4000) (h2 : b < 2 ^ 4000) : a * b < 2 ^ 8000 := by
  have : (2 : Nat) ^ 8000 = 2 ^ 4000 * 2 ^ 4000 := by rw [← Nat.pow_add]
  rw [this]
  exact Nat.mul_lt_mul'' h1 h2
theorem dMk {n d : Int} (hd : 0 < d) (hs : d.natAbs < 2 ^ 8000) : m_Ratio___init___2 [.int n, .int d] = some (rD (mkRat n d.toNat)) :=
  Ratio_init hd (Nat.lt_trans (log_lt (by decide) hs) (by decide))
theorem den_pos' (q : Rat) : (0 : Int) < q.den := by have := q.den_pos; omega
theorem add_mk (a b : Rat) : a + b = mkRat (a.num * b.den + b.num * a.den) (a.den * b.den) := by
  rw [Rat.add_def, Rat.normalize_eq_mkRat]
theorem mul_mk (a b : Rat) : a * b = mkRat (a.num * b.num) (a.den * b.den) := by
  rw [Rat.mul_def, Rat.normalize_eq_mkRat]
theorem toNat_mul (a b : Nat) : ((a : Int) * (b : Int)).toNat = a * b := by
  rw [← Int.natCast_mul, Int.toNat_natCast]
theorem ok_den {a b : Rat} (ha : Ok a) (hb : Ok b) : ((a.den : Int) * (b.den : Int)).natAbs < 2 ^ 8000 := by
  rw [Int.natAbs_mul, Int.natAbs_natCast, Int.natAbs_natCast]
  exact ok_mul ha.d hb.d
theorem ok_W {i j : Int} (h1 : i.natAbs < 2 ^ 4000) (h2 : j.natAbs < 2 ^ 4000) : CMulW i j := mulW h1 h2 (by decide) (by decide) (by decide)
theorem den_W {a : Rat} (ha : Ok a) : ((a.den : Nat) : Int).natAbs < 2 ^ 4000 := by rw [Int.natAbs_natCast]; exact ha.d
theorem Ratio_add {a b : Rat} (ha : Ok a) (hb : Ok b) : m_Ratio___add__ [rD a, rD b] = some (rD (a + b)) := by
  have h := dMk (n := a.num * b.den + b.num * a.den) (d := (a.den : Int) * b.den) (Int.mul_pos (den_pos' a) (den_pos' b)) (ok_den ha hb)
  rw [toNat_mul, ← add_mk] at h
  have w1 := ok_W ha.n (den_W hb)
  have w2 := ok_W hb.n (den_W ha)
  have w3 := ok_W (den_W ha) (den_W hb)
  simp [m_Ratio___add__, d_Ratio___add__, runD, runI, env0, dSeq, dNext, dIf, dRet, dRetN, dSet, dSetO, dDrop, dVar, dPk, dC, dBin, dB, dCons, dNil, dTup, dLst, dCall, dMake, dFld, dMap, dSelf, dNot, dAnd, dOr, dIfE, dAndV, dOrV, dNotV, dNeg, dIsO, dIsI, dTruI, dMeth, dProp, dNegO, dTruO, dLenO, dSubO, gOwn, dFrz, frz, dGcd, dMax2, gI, gIc, gIB, gLen, gAbs, gInt, gBool, gTuple, gList, gAdd, gMul, rD, lk_num, lk_den, w1, w2, w3] at h ⊢
  rw [h]; rfl
theorem Ratio_mul {a b : Rat} (ha : Ok a) (hb : Ok b) : m_Ratio___mul__ [rD a, rD b] = some (rD (a * b)) := by
  have h := dMk (n := a.num * b.num) (d := (a.den : Int) * b.den) (Int.mul_pos (den_pos' a) (den_pos' b)) (ok_den ha hb)
  rw [toNat_mul, ← mul_mk] at h
  have w1 := ok_W ha.n hb.n
  have w3 := ok_W (den_W ha) (den_W hb)
  simp [m_Ratio___mul__, d_Ratio___mul__, runD, runI, env0, dSeq, dNext, dIf, dRet, dRetN, dSet, dSetO, dDrop, dVar, dPk, dC, dBin, dB, dCons, dNil, dTup, dLst, dCall, dMake, dFld, dMap, dSelf, dNot, dAnd, dOr, dIfE, dAndV, dOrV, dNotV, dNeg, dIsO, dIsI, dTruI, dMeth, dProp, dNegO, dTruO, dLenO, dSubO, gOwn, dFrz, frz, dGcd, dMax2, gI, gIc, gIB, gLen, gAbs, gInt, gBool, gTuple, gList, gAdd, gMul, rD, lk_num, lk_den, w1, w3] at h ⊢
  rw [h]; rfl
theorem Ratio_neg {a : Rat} (ha : Ok a) : m_Ratio___neg__ [rD a] = some (rD (-a)) := by
  have h := dMk (n := -a.num) (d := (a.den : Int)) (den_pos' a) (by
    have := den_W ha
    exact Nat.lt_trans this (Nat.pow_lt_pow_right (by decide) (by decide)))
  have e : mkRat (-a.num) ((a.den : Int)).toNat = -a := by
    rw [Int.toNat_natCast, ← Rat.neg_mkRat, Rat.mkRat_self]
  rw [e] at h
  simp [m_Ratio___neg__, d_Ratio___neg__, runD, runI, env0, dSeq, dNext, dIf, dRet, dRetN, dSet, dSetO, dDrop, dVar, dPk, dC, dBin, dB, dCons, dNil, dTup, dLst, dCall, dMake, dFld, dMap, dSelf, dNot, dAnd, dOr, dIfE, dAndV, dOrV, dNotV, dNeg, dIsO, dIsI, dTruI, dMeth, dProp, dNegO, dTruO, dLenO, dSubO, gOwn, dFrz, frz, dGcd, dMax2, gI, gIc, gIB, gLen, gAbs, gInt, gBool, gTuple, gList, gAdd, gMul, rD, lk_num, lk_den] at h ⊢
  rw [h]; rfl
theorem Ratio_bool (a : Rat) : m_Ratio___bool__ [rD a] = some (.bl (decide (a ≠ 0))) := by
  simp [m_Ratio___bool__, d_Ratio___bool__, runD, runI, env0, dSeq, dNext, dIf, dRet, dRetN, dSet, dSetO, dDrop, dVar, dPk, dC, dBin, dB, dCons, dNil, dTup, dLst, dCall, dMake, dFld, dMap, dSelf, dNot, dAnd, dOr, dIfE, dAndV, dOrV, dNotV, dNeg, dIsO, dIsI, dTruI, dMeth, dProp, dNegO, dTruO, dLenO, dSubO, gOwn, dFrz, frz, dGcd, dMax2, gI, gIc, gIB, gLen, gAbs, gInt, gBool, gTuple, gList, rD, lk_num]
  by_cases h : a = 0
  · subst h; rfl
  · have := mt Rat.num_eq_zero.mp h
    simp [h, this]
end Pd73

/-! k73, mathematics: sizes of coefficients: a common denominator, the sum of the absolute values. -/
namespace Pd73
open PySem PySem.Spec PyProof.Rows L2 Pd

/-- q = zz / m -/
def In (m : Nat) (q : Rat) : Prop := (q * m).den = 1
def zz (m : Nat) (q : Rat) : Int := (q * m).num
theorem In.eq {m : Nat} {q : Rat} (h : In m q) : q * m = (zz m q : Rat) := by
  unfold zz
  exact (Rat.ext rfl h : (q * m : Rat) = ((q * m).num : Rat))
theorem in_of {m : Nat} {q : Rat} {z : Int} (h : q * m = (z : Rat)) : In m q ∧ zz m q = z := by
  unfold In zz
  rw [h]
  exact ⟨rfl, rfl⟩
theorem zz_add {m : Nat} {p q : Rat} (hp : In m p) (hq : In m q) : In m (p + q) ∧ zz m (p + q) = zz m p + zz m q := by
  refine in_of ?_
  have e1 := hp.eq
  have e2 := hq.eq
  rw [Rat.intCast_add, ← e1, ← e2]
  grind
theorem zz_mul {m k : Nat} {p q : Rat} (hp : In m p) (hq : In k q) : In (m * k) (p * q) ∧ zz (m * k) (p * q) = zz m p * zz k q := by
  refine in_of ?_
  have e1 := hp.eq
  have e2 := hq.eq
  rw [Rat.intCast_mul, ← e1, ← e2, Rat.natCast_mul]
  grind
theorem zz_neg {m : Nat} {p : Rat} (hp : In m p) : In m (-p) ∧ zz m (-p) = - zz m p := by
  refine in_of ?_
  have e1 := hp.eq
  rw [Rat.intCast_neg, ← e1]
  grind
theorem zz_zero (m : Nat) : In m 0 ∧ zz m 0 = 0 := in_of (by rw [Rat.zero_mul]; rfl)
theorem zz_up {m k : Nat} {p : Rat} (hp : In m p) : In (m * k) p ∧ zz (m * k) p = zz m p * k := by
  refine in_of ?_
  have e1 := hp.eq
  rw [Rat.intCast_mul, ← e1, Rat.natCast_mul]
  have : ((k : Int) : Rat) = (k : Rat) := rfl
  rw [this]
  grind
theorem ok_of {m : Nat} {q : Rat} (hm : 0 < m) (h : In m q) (h1 : m < 2 ^ 4000) (h2 : (zz m q).natAbs < 2 ^ 4000) : Ok q := by
  have e := h.eq
  have e2 : q = mkRat (zz m q) m := by
    have hz : (m : Rat) ≠ 0 := by
      intro z
      have : m = 0 := by exact_mod_cast z
      omega
    rw [Rat.mkRat_eq_div, ← e]
    grind
  generalize zz m q = z at e2 h2
  have hm' : m ≠ 0 := by omega
  have n1 := Rat.num_mkRat z m
  have n2 := Rat.den_mkRat z m
  rw [if_neg hm'] at n1 n2
  rw [e2]
  constructor
  · rw [n1]
    refine Nat.lt_of_le_of_lt ?_ h2
    exact Int.natAbs_ediv_le_natAbs _ _
  · rw [n2]
    exact Nat.lt_of_le_of_lt (Nat.div_le_self _ _) h1

def nr (m : Nat) : PL → Nat
  | [] => 0
  | e :: l => (zz m e.2).natAbs + nr m l
/-- all coefficients have the denominator m; the sum of the numerators is at most b -/
structure Fit (m b : Nat) (l : PL) : Prop where
  i : ∀ e ∈ l, In m e.2
  n : nr m l ≤ b
theorem nr_perm {m : Nat} {l k : PL} (p : l.Perm k) : nr m l = nr m k := by
  induction p with
  | nil => rfl
  | cons x _ ih => rw [nr, nr, ih]
  | swap x y l => simp only [nr]; omega
  | trans _ _ h1 h2 => rw [h1, h2]
theorem nr_append {m : Nat} (l k : PL) : nr m (l ++ k) = nr m l + nr m k := by
  induction l with
  | nil => simp [nr]
  | cons e l ih => rw [List.cons_append, nr, nr, ih]; omega
theorem nr_mem {m : Nat} {l : PL} {e : KY × Rat} (h : e ∈ l) : (zz m e.2).natAbs ≤ nr m l := by
  induction l with
  | nil => cases h
  | cons x l ih =>
    rw [nr]
    rcases List.mem_cons.mp h with z | z
    · rw [z]; omega
    · have := ih z; omega
theorem Fit.ok {m b : Nat} {l : PL} (h : Fit m b l) (hm : 0 < m) (h1 : m < 2 ^ 4000) (h2 : b < 2 ^ 4000) : ∀ e ∈ l, Ok e.2 := fun e he =>
  ok_of hm (h.i e he) h1 (Nat.lt_of_le_of_lt (Nat.le_trans (nr_mem he) h.n) h2)
theorem Fit.mono {m b c : Nat} {l : PL} (h : Fit m b l) (hbc : b ≤ c) : Fit m c l := ⟨h.i, Nat.le_trans h.n hbc⟩
theorem fit_nil (m : Nat) : Fit m 0 [] := ⟨fun e h => (by cases h), Nat.le_refl _⟩
theorem fit_append {m b c : Nat} {l k : PL} (h : Fit m b l) (g : Fit m c k) : Fit m (b + c) (l ++ k) := by
  refine ⟨fun e he => ?_, ?_⟩
  · rcases List.mem_append.mp he with z | z
    · exact h.i e z
    · exact g.i e z
  · rw [nr_append]
    have := h.n
    have := g.n
    omega
theorem fit_put {m : Nat} {k : KY} {r : Rat} (hr : In m r) : ∀ {l : PL}, (∀ e ∈ l, In m e.2) → (∀ e ∈ put k r l, In m e.2) ∧ nr m (put k r l) ≤ nr m l + (zz m r).natAbs
  | [], h => by
    refine ⟨fun e he => ?_, by simp [put, nr]⟩
    have : e = (k, r) := by simpa [put] using he
    rw [this]; exact hr
  | x :: l, h => by
    unfold put
    split
    · refine ⟨fun e he => ?_, ?_⟩
      · rcases List.mem_cons.mp he with z | z
        · rw [z]; exact hr
        · exact h e (List.mem_cons_of_mem _ z)
      · simp only [nr]; omega
    · obtain ⟨h1, h2⟩ := fit_put hr (l := l) fun e he => h e (List.mem_cons_of_mem _ he)
      refine ⟨fun e he => ?_, ?_⟩
      · rcases List.mem_cons.mp he with z | z
        · rw [z]; exact h x List.mem_cons_self
        · exact h1 e z
      · simp only [nr]; omega
/-- put of a sum -/
theorem nr_put_add {m : Nat} {k : KY} {s r : Rat} (hr : In m r) : ∀ {l : PL}, (∀ e ∈ l, In m e.2) → look k l = some s → (∀ e ∈ put k (s + r) l, In m e.2) ∧ nr m (put k (s + r) l) ≤ nr m l + (zz m r).natAbs
  | [], h, q => by cases q
  | x :: l, h, q => by
    unfold look at q
    unfold put
    split at q
    · rename_i ek
      cases q
      rw [if_pos ek]
      obtain ⟨i1, i2⟩ := zz_add (h x List.mem_cons_self) hr
      refine ⟨fun e he => ?_, ?_⟩
      · rcases List.mem_cons.mp he with z | z
        · rw [z]; exact i1
        · exact h e (List.mem_cons_of_mem _ z)
      · simp only [nr]
        rw [i2]
        omega
    · rename_i ek
      rw [if_neg ek]
      obtain ⟨h1, h2⟩ := nr_put_add hr (l := l) (fun e he => h e (List.mem_cons_of_mem _ he)) q
      refine ⟨fun e he => ?_, ?_⟩
      · rcases List.mem_cons.mp he with z | z
        · rw [z]; exact h x List.mem_cons_self
        · exact h1 e z
      · simp only [nr]; omega
theorem fit_acc1 {m b c : Nat} {l : PL} {e : KY × Rat} (h : Fit m b l) (he : In m e.2) (hc : (zz m e.2).natAbs ≤ c) : Fit m (b + c) (acc1 l e) := by
  unfold acc1
  have hn := h.n
  cases q : look e.1 l with
  | none =>
    obtain ⟨h1, h2⟩ := fit_put (k := e.1) he h.i
    exact ⟨h1, by dsimp only; omega⟩
  | some s =>
    obtain ⟨h1, h2⟩ := nr_put_add he h.i q
    exact ⟨h1, by dsimp only; omega⟩
theorem fit_acc {m c : Nat} : ∀ {k : PL} {b : Nat} {l : PL}, Fit m b l → Fit m c k → Fit m (b + c) (acc l k) := by
  intro k
  induction k generalizing c with
  | nil => intro b l h _; exact h.mono (by omega)
  | cons e k ih =>
    intro b l h g
    have hn := g.n
    rw [nr] at hn
    have h1 := fit_acc1 h (g.i e List.mem_cons_self) (Nat.le_refl (zz m e.2).natAbs)
    have g1 : Fit m (nr m k) k := ⟨fun x hx => g.i x (List.mem_cons_of_mem _ hx), Nat.le_refl _⟩
    exact (ih h1 g1).mono (by omega)
theorem canon_perm {l : PL} (h : (l.map (·.1)).Nodup) : (canon l).Perm (l.filter fun e => decide (e.2 ≠ 0)) := by
  have c := canon_can h
  refine (List.perm_ext_iff_of_nodup (nodup_of_keys c.nd) ((nodup_of_keys h).filter _)).mpr fun a => ?_
  obtain ⟨k, r⟩ := a
  have p := List.mergeSort_perm (l.map (·.1)) keyLe
  unfold canon
  rw [canK_mem, List.mem_filter]
  constructor
  · rintro ⟨_, b, d⟩
    exact ⟨look_mem b, by simpa using d⟩
  · rintro ⟨a, d⟩
    exact ⟨p.mem_iff.mpr (List.mem_map.mpr ⟨_, a, rfl⟩), mem_look h a, by simpa using d⟩
theorem nr_filter {m : Nat} (f : KY × Rat → Bool) : ∀ l : PL, nr m (l.filter f) ≤ nr m l
  | [] => Nat.le_refl _
  | e :: l => by
    have := nr_filter (m := m) f l
    rw [List.filter_cons]
    split
    · simp only [nr]; omega
    · rw [nr]; omega
theorem fit_canon {m b : Nat} {l : PL} (n : (l.map (·.1)).Nodup) (h : Fit m b l) : Fit m b (canon l) := by
  have p := canon_perm n
  refine ⟨fun e he => h.i e (List.mem_filter.mp (p.mem_iff.mp he)).1, ?_⟩
  rw [nr_perm p]
  exact Nat.le_trans (nr_filter _ _) h.n
theorem fit_up {m b : Nat} {l : PL} (k : Nat) (h : Fit m b l) : Fit (m * k) (b * k) l := by
  refine ⟨fun e he => (zz_up (h.i e he)).1, ?_⟩
  have hn := h.n
  have : nr (m * k) l = nr m l * k := by
    have hi := h.i
    clear h hn
    induction l with
    | nil => simp [nr]
    | cons e l ih =>
      rw [nr, nr, ih fun x hx => hi x (List.mem_cons_of_mem _ hx), (zz_up (k := k) (hi e List.mem_cons_self)).2, Int.natAbs_mul, Int.natAbs_natCast, Nat.add_mul]
  rw [this]
  exact Nat.mul_le_mul_right _ hn
end Pd73

/-! k73, mathematics: texts, comprehensions, least_rotation, term_key, content_of. -/
namespace Pd73
open PySem PySem.Spec PyProof.Rows L2 Pd

/-! ### texts -/
def tx (l : List Nat) : Str := ⟨l.toArray⟩
theorem tx_eta (s : Str) : tx s.cps.toList = s := rfl
theorem tx_len (l : List Nat) : (tx l).length = l.length := by simp [tx, Str.length]
theorem tx_app (a b : List Nat) : tx a ++ tx b = tx (a ++ b) := by
  show Str.append (tx a) (tx b) = _
  simp [tx, Str.append]
theorem tx_inj {a b : List Nat} (h : tx a = tx b) : a = b := by
  simp only [tx, Str.mk.injEq] at h
  simpa using congrArg Array.toList h
theorem tx_nil : Str.ofString "" = tx [] := by rfl
theorem tx_nil' : Str.empty = tx [] := rfl
/-- the letter c, n times -/
def xs (c n : Nat) : Str := tx (List.replicate n c)
theorem xs_len (c n : Nat) : (xs c n).length = n := by simp [xs, tx_len]
theorem xs_app (c m n : Nat) : xs c m ++ xs c n = xs c (m + n) := by
  unfold xs
  rw [tx_app, List.replicate_append_replicate]
theorem xs_inj {c m n : Nat} (h : xs c m = xs c n) : m = n := by
  have := congrArg List.length (tx_inj h)
  simpa using this
theorem fold_rep (a : Array Nat) : ∀ (k : Nat) (acc : Array Nat), ((List.replicate k a).foldl (· ++ ·) acc).toList = acc.toList ++ (List.replicate k a.toList).flatten
  | 0, acc => by simp
  | k + 1, acc => by
    rw [List.replicate_succ, List.foldl_cons, fold_rep a k, List.replicate_succ]
    simp
theorem rep_xs (c : Nat) (i : Nat) (n : Int) : repS (xs c i) n = xs c (i * n.toNat) := by
  unfold repS
  split
  · rw [show n.toNat = 0 by omega]; simp [xs, tx_nil']
  · rename_i h1
    split
    · rename_i h2
      rw [xs_len, Bool.or_eq_true, beq_iff_eq, beq_iff_eq] at h2
      rcases h2 with z | z
      · subst z; simp
      · subst z; simp
    · have : ∀ s : Str, s = tx s.cps.toList := fun s => rfl
      rw [this ⟨_⟩]
      unfold xs
      congr 1
      rw [fold_rep]
      simp only [tx, List.nil_append, Array.toList_empty, List.toList_toArray]
      generalize n.toNat = k
      induction k with
      | zero => simp
      | succ k ih => rw [List.replicate_succ, List.flatten_cons, ih, Nat.mul_succ, Nat.add_comm, List.replicate_append_replicate]
theorem join_nil (ys : List Str) : Txt.join (Str.ofString "") ys = tx (ys.flatMap fun s => s.cps.toList) := by
  show Builtin.Str.glued (Str.ofString "") ys = _
  cases ys with
  | nil => rfl
  | cons y ys =>
    unfold Builtin.Str.glued
    have z : ∀ (ys : List Str) (acc : Array Nat), (ys.foldl (fun acc p => acc ++ (Str.ofString "").cps ++ p.cps) acc).toList = acc.toList ++ ys.flatMap fun s => s.cps.toList := by
      intro ys
      induction ys with
      | nil => intro acc; simp
      | cons y ys ih =>
        intro acc
        rw [List.foldl_cons, ih, tx_nil]
        simp [tx]
    have e : ∀ s : Str, s = tx s.cps.toList := fun s => rfl
    rw [e ⟨_⟩]
    congr 1
    simp only [List.drop_one, List.tail_cons, List.headD_cons]
    rw [z]
    rfl

/-! ### slices -/
theorem cut_from {α : Type} (l : List α) {k : Nat} (h : k ≤ l.length) : Pd.cutD l (some (k : Int)) none = l.drop k := by
  unfold Pd.cutD
  rw [HT.sIx_nat, HT.sIx_none, Nat.min_eq_left h]
  rw [List.take_of_length_le]
  simp
theorem cut_to {α : Type} (l : List α) {k : Nat} (h : k ≤ l.length) : Pd.cutD l none (some (k : Int)) = l.take k := by
  unfold Pd.cutD
  rw [HT.sIx_nat, HT.sIx_none, Nat.min_eq_left h]
  simp

/-! ### comprehensions over one name -/
theorem compL_map {α : Type} {i : Nat} {f : DP} {e : DEnv} {enc : α → D} {g : α → D} : ∀ {l : List α}, (∀ x ∈ l, f (e.set i (some (enc x, .fz))) = some (g x)) → compL (.nm i) dYes f (l.map enc) e = some (l.map g)
  | [], _ => rfl
  | x :: l, h => by
    rw [List.map_cons, compL]
    simp only [tgtE, dYes]
    rw [h x List.mem_cons_self]
    simp only
    rw [compL_map fun y hy => h y (List.mem_cons_of_mem _ hy)]
    rfl
theorem compL_filter {α : Type} {i : Nat} {c : DT} {f : DP} {e : DEnv} {enc : α → D} {p : α → Bool} {g : α → D} : ∀ {l : List α}, (∀ x ∈ l, c (e.set i (some (enc x, .fz))) = some (p x)) → (∀ x ∈ l, p x = true → f (e.set i (some (enc x, .fz))) = some (g x)) → compL (.nm i) c f (l.map enc) e = some ((l.filter p).map g)
  | [], _, _ => rfl
  | x :: l, h, h2 => by
    have ih := compL_filter (l := l) (fun y hy => h y (List.mem_cons_of_mem _ hy)) (fun y hy => h2 y (List.mem_cons_of_mem _ hy))
    rw [List.map_cons, compL]
    simp only [tgtE]
    rw [h x List.mem_cons_self]
    cases q : p x with
    | false => simp [q, ih]
    | true => simp [q, ih, h2 x List.mem_cons_self q]
/-- the numbers from 0 -/
def nums (n : Nat) : List D := (List.range n).map fun j => .int (j : Nat)
theorem rangeD0 (n : Nat) : rangeD 0 (n : Int) = nums n := by
  unfold rangeD nums
  simp
theorem rangeD1 (n : Nat) : rangeD 1 ((n : Int) + 1) = (List.range n).map fun j => .int ((j + 1 : Nat) : Int) := by
  unfold rangeD
  rw [show ((n : Int) + 1 - 1).toNat = n by omega]
  congr 1
  funext j
  congr 1
  omega

/-! ### least_rotation -/
def rot (s : Str) (k : Nat) : Str := tx (s.cps.toList.drop k ++ s.cps.toList.take k)
def lrot (s : Str) : Str := match (List.range s.cps.size).map (rot s) with
  | [] => Str.ofString ""
  | x :: r => PySem.W.minOf x r
theorem strsD_map (l : List Str) : strsD (l.map D.str) = some l := by
  induction l with
  | nil => rfl
  | cons x l ih => rw [List.map_cons, strsD, ih]
theorem least_rot {s : Str} (h : s.length ≤ smallL) : m_least_rotation [.str s] = some (.str (lrot s)) := by
  have hn : s.cps.size ≤ smallL := h
  have hc : compL (.nm 1) dYes (dBin gAdd (dSl (dVar 0) (dPt (dVar 1)) dNoP) (dSl (dVar 0) dNoP (dPt (dVar 1)))) (nums s.cps.size) [some (.str s, .fz), none] = some (((List.range s.cps.size).map (rot s)).map D.str) := by
    unfold nums
    rw [List.map_map]
    refine compL_map fun j hj => ?_
    rw [List.mem_range] at hj
    have hj' : j ≤ s.cps.toList.length := by simp; omega
    have l2 : s.cps.toList.length = s.cps.size := by simp
    simp only [dBin, dSl, dVar, dPt, dNoP, List.set_cons_succ, List.set_cons_zero, List.getElem?_cons_zero, List.getElem?_cons_succ, gSl, if_pos h, cut_from _ hj', cut_to _ hj', gAdd]
    have e1 : (tx (s.cps.toList.drop j)).length + (tx (s.cps.toList.take j)).length ≤ smallL := by
      rw [tx_len, tx_len, List.length_drop, List.length_take]
      omega
    have e2 : ∀ l : List Nat, (⟨l.toArray⟩ : Str) = tx l := fun _ => rfl
    rw [e2, e2, if_pos e1, tx_app]
    rfl
  have hb : -1000000 ≤ (s.cps.size : Int) ∧ (s.cps.size : Int) ≤ 1000000 := by
    have : smallL = 100000 := rfl
    omega
  have hl : (nums s.cps.size).length ≤ smallL := by simp [nums, hn]
  have e0 : env0 2 [D.str s] = [some (.str s, .fz), none] := rfl
  have hlen : s.length = s.cps.size := rfl
  unfold m_least_rotation runD d_least_rotation
  rw [e0]
  simp only [dRet, dMinT, dLc, dRg1, dCons, dNil, dMap, gLen, dVar, List.getElem?_cons_zero, hlen, if_pos hn, if_pos hb, rangeD0, if_pos hl, wipeE, List.set_cons_succ, List.set_cons_zero, hc, Option.map_some, dC]
  unfold lrot
  cases q : (List.range s.cps.size).map (rot s) with
  | nil => simp [gMinT]
  | cons x r =>
    have := strsD_map (x :: r)
    rw [List.map_cons] at this ⊢
    simp [gMinT, this]
end Pd73

/-! k73, mathematics: term_key, content_of; polynomials as data. -/
namespace Pd73
open PySem PySem.Spec PyProof.Rows L2 Pd

theorem gAdd_int (i j : Int) : gAdd (.int i) (.int j) = some (.int (i + j)) := rfl
theorem gAdd_str {a b : Str} (h : a.length + b.length ≤ smallL) : gAdd (.str a) (.str b) = some (.str (a ++ b)) := by simp only [gAdd, if_pos h]
theorem gAdd_tup {a b : List D} (h : a.length + b.length ≤ smallL) : gAdd (.tup a) (.tup b) = some (.tup (a ++ b)) := by simp only [gAdd, if_pos h]
theorem gAdd_lst {a b : List D} (h : a.length + b.length ≤ smallL) : gAdd (.lst a) (.lst b) = some (.lst (a ++ b)) := by simp only [gAdd, if_pos h]
theorem tx1_lit (c : Nat) : (⟨#[c]⟩ : Str) = tx [c] := rfl
theorem minOf_const (x : Str) : ∀ n : Nat, PySem.W.minOf x (List.replicate n x) = x := by
  intro n
  unfold PySem.W.minOf
  induction n with
  | zero => rfl
  | succ n ih =>
    rw [List.replicate_succ, List.foldl_cons]
    simp only [ite_self]
    exact ih
theorem rot_xs (c : Nat) {n k : Nat} (h : k ≤ n) : rot (xs c n) k = xs c n := by
  unfold rot xs
  simp only [tx, List.drop_replicate, List.take_replicate, List.replicate_append_replicate]
  congr 3
  omega
theorem lrot_xs (c n : Nat) : lrot (xs c n) = xs c n := by
  have hs : (xs c n).cps.size = n := by simp [xs, tx]
  have e : (List.range n).map (rot (xs c n)) = List.replicate n (xs c n) := by
    refine List.eq_replicate_iff.mpr ⟨by simp, fun b hb => ?_⟩
    obtain ⟨k, hk, rfl⟩ := List.mem_map.mp hb
    exact rot_xs c (Nat.le_of_lt (List.mem_range.mp hk))
  unfold lrot
  rw [hs, e]
  cases n with
  | zero => rfl
  | succ n => exact minOf_const _ n
def tk (cs : List Str) (w : Str) : KY := ((cs.map lrot).mergeSort strLe, w)
/-- cycles, as a list or as a tuple -/
def cyD (b : Bool) (cs : List Str) : D := match b with
  | true => .tup (cs.map .str)
  | false => .lst (cs.map .str)
theorem term_key_eq {b : Bool} {cs : List Str} {w : Str} (h : ∀ s ∈ cs, s.length ≤ smallL) (hl : cs.length ≤ smallL) : m_term_key [cyD b cs, .str w] = some (kD (tk cs w)) := by
  have e0 : env0 3 [cyD b cs, D.str w] = [some (cyD b cs, .fz), some (.str w, .fz), none] := rfl
  have hc : compL (.nm 2) dYes (dCall 1 m_least_rotation [] (dCons (dVar 2) dNil)) (cs.map .str) [some (cyD b cs, .fz), some (.str w, .fz), none] = some ((cs.map lrot).map D.str) := by
    rw [List.map_map]
    refine compL_map fun s hs => ?_
    simp [dCall, dCons, dVar, dNil, least_rot (h s hs)]
  have hl1 : (cs.map D.str).length ≤ smallL := by simpa using hl
  have hl2 : ((cs.map lrot).map D.str).length ≤ smallL := by simpa using hl
  have hit : dIt (dVar 0) [some (cyD b cs, .fz), some (.str w, .fz), none] = some (cs.map .str) := by cases b <;> rfl
  unfold m_term_key runD d_term_key
  rw [e0]
  simp only [dRet, dTup, dCons, dNil, dMap, dSorted, dLc, hit, if_pos hl1, wipeE, List.set_cons_succ, List.set_cons_zero, hc, Option.map_some, srcD, sortOk_str, hl2, and_self, if_true, sortD_str, gTuple]
  simp only [dVar, List.getElem?_cons_zero, List.getElem?_cons_succ]
  rfl

/-! ### content_of -/
def flat (k : KY) : List Nat := (k.1.flatMap fun s => s.cps.toList) ++ k.2.cps.toList
def content (k : KY) : Str := tx ((((flat k).map fun c => tx [c]).mergeSort strLe).flatMap fun s => s.cps.toList)
theorem flat_sing : ∀ l : List Nat, ((l.map fun c => tx [c]).flatMap fun s => s.cps.toList) = l
  | [] => rfl
  | c :: l => by
    rw [List.map_cons, List.flatMap_cons, flat_sing l]
    rfl
theorem content_perm (k : KY) : (content k).cps.toList.Perm (flat k) := by
  have p := List.mergeSort_perm ((flat k).map fun c => tx [c]) strLe
  have q := p.flatMap_right (fun s : Str => s.cps.toList)
  rw [flat_sing] at q
  exact q
theorem content_len (k : KY) : (content k).length = (flat k).length := by
  have := (content_perm k).length_eq
  simpa [Str.length] using this
theorem content_eq {k : KY} (hl : k.1.length ≤ smallL) (h : (flat k).length ≤ smallL) : m_content_of [kD k] = some (.str (content k)) := by
  have e0 : env0 1 [kD k] = [some (kD k, .fz)] := rfl
  have i0 : gIx (kD k) (.int 0) = some (.tup (k.1.map .str)) := rfl
  have i1 : gIx (kD k) (.int 1) = some (.str k.2) := rfl
  have hfl : (flat k).length = (k.1.flatMap fun s => s.cps.toList).length + k.2.cps.toList.length := by unfold flat; rw [List.length_append]
  have lens : ∀ l : List Str, (l.map (·.length)).sum = (l.flatMap fun s => s.cps.toList).length := by
    intro l
    induction l with
    | nil => rfl
    | cons x l ih => rw [List.map_cons, List.sum_cons, ih, List.flatMap_cons, List.length_append]; simp [Str.length]
  have lit0 : (Str.ofString "").length = 0 := rfl
  have j1 : gJoin (Str.ofString "") (k.1.map .str) = some (.str (tx (k.1.flatMap fun s => s.cps.toList))) := by
    unfold gJoin
    rw [strsD_map]
    simp only
    rw [if_pos (by rw [lens, lit0]; omega), join_nil]
  have a1 : gAdd (.str (tx (k.1.flatMap fun s => s.cps.toList))) (.str k.2) = some (.str (tx (flat k))) := by
    have l2 : k.2.length = k.2.cps.toList.length := by simp [Str.length]
    rw [gAdd_str (by rw [tx_len, l2]; omega)]
    have e2 : k.2 = tx k.2.cps.toList := rfl
    rw [e2, tx_app]
    rfl
  have sr : srcD (.str (tx (flat k))) = some (((flat k).map fun c => tx [c]).map D.str) := by
    unfold srcD charsD
    rw [List.map_map]
    simp only [tx]
    rfl
  have hl3 : (((flat k).map fun c => tx [c]).map D.str).length ≤ smallL := by simpa using h
  have j2 : gJoin (Str.ofString "") ((((flat k).map fun c => tx [c]).mergeSort strLe).map .str) = some (.str (content k)) := by
    have q := content_len k
    unfold gJoin
    rw [strsD_map]
    simp only
    rw [if_pos ?_, join_nil]
    · rfl
    · rw [lens, lit0]
      have q' : ((((flat k).map fun c => tx [c]).mergeSort strLe).flatMap fun s => s.cps.toList).length = (flat k).length := by
        unfold content at q
        rwa [tx_len] at q
      omega
  unfold m_content_of runD d_content_of
  rw [e0]
  simp only [dRet, dJoin, dC, dSorted, dBin, dVar, List.getElem?_cons_zero, i0, i1, j1, a1, sr, hl3, sortOk_str, and_self, if_true, sortD_str, j2, Option.map_some]

/-! ### polynomials -/
def pD (kind : Str) (l : PL) : D := .obj 1 ["kind", "coefficients", "terms"] [.str kind, .dic (dks l) (dvs rD l), .tup (dks l)]
theorem lk_kind (a b c : D) : lookND "kind" ["kind", "coefficients", "terms"] [a, b, c] = some a := by rfl
theorem lk_co (a b c : D) : lookND "coefficients" ["kind", "coefficients", "terms"] [a, b, c] = some b := by rfl
theorem lk_terms (a b c : D) : lookND "terms" ["kind", "coefficients", "terms"] [a, b, c] = some c := by rfl
/-- {key: sums[key] for key in .. if sums[key]} -/
theorem dcL_canK {i : Nat} {c : DT} {fk fv : DP} {e : DEnv} {l : PL} : ∀ {ks : List KY} {done : PL}, (∀ k ∈ ks, k ∈ l.map (·.1)) → (done.map (·.1) ++ ks).Nodup →
    (∀ k r, look k l = some r → c (e.set i (some (kD k, .fz))) = some (decide (r ≠ 0)) ∧ fk (e.set i (some (kD k, .fz))) = some (kD k) ∧ fv (e.set i (some (kD k, .fz))) = some (rD r)) →
    dcL (.nm i) c fk fv (ks.map kD) e (dks done) (dvs rD done) = some (dks (done ++ canK l ks), dvs rD (done ++ canK l ks)) := by
  intro ks
  induction ks with
  | nil => intro done _ _ _; simp [dcL, canK]
  | cons k ks ih =>
    intro done hk nd h
    rw [List.map_cons, dcL]
    simp only [tgtE]
    have hk0 : look k l ≠ none := fun z => look_none_iff.mp z (hk k List.mem_cons_self)
    obtain ⟨r, hr⟩ := Option.ne_none_iff_exists'.mp hk0
    obtain ⟨h1, h2, h3⟩ := h k r hr
    have nd' : (done.map (·.1) ++ ks).Nodup := nd.sublist (List.Sublist.append (List.Sublist.refl _) (List.sublist_cons_self _ _))
    rw [h1]
    unfold canK
    rw [hr]
    by_cases z : r = 0
    · subst z
      simp only [ne_eq, not_true, decide_false]
      exact ih (fun j hj => hk j (List.mem_cons_of_mem _ hj)) nd' h
    · simp only [ne_eq, z, not_false_eq_true, decide_true, h2, h3, tkey_kD, if_false]
      rw [putKs_eq k r, putVs_eq rD k r]
      have hnew : k ∉ done.map (·.1) := by
        rw [List.nodup_append] at nd
        exact fun m => nd.2.2 k m k List.mem_cons_self rfl
      have hput : put k r done = done ++ [(k, r)] := by
        clear ih h1 h2 h3 nd nd' hk hr hk0
        induction done with
        | nil => rfl
        | cons x l ih =>
          rw [List.map_cons, List.mem_cons] at hnew
          rw [put, if_neg (fun z => hnew (.inl z.symm)), ih fun z => hnew (.inr z)]
          rfl
      rw [hput]
      have := ih (done := done ++ [(k, r)]) (fun j hj => hk j (List.mem_cons_of_mem _ hj)) (by simpa using nd) h
      rw [this]
      simp
end Pd73

/-! k73, mathematics: Poly.__init__, poly_of. -/
namespace Pd73
open PySem PySem.Spec PyProof.Rows L2 Pd

theorem gEqA_str (ne : Bool) (a b : Str) : gEqA ne (.str a) (.str b) = some (.bl (xor ne (decide (a = b)))) := by simp [gEqA, gEq]
theorem gEqA_int (ne : Bool) (a b : Int) : gEqA ne (.int a) (.int b) = some (.bl (xor ne (decide (a = b)))) := by simp [gEqA, gEq]
theorem rD_obj (q : Rat) : rD q = .obj 0 ["num", "den"] [.int q.num, .int q.den] := rfl
theorem own_add {a b : Rat} (ha : Ok a) (hb : Ok b) : gOwn 0 m_Ratio___add__ (rD a) (rD b) = some (rD (a + b)) := by
  have := Ratio_add ha hb
  simp only [rD_obj] at this ⊢
  simp only [gOwn, and_self, if_true]
  exact this
theorem own_mul {a b : Rat} (ha : Ok a) (hb : Ok b) : gOwn 0 m_Ratio___mul__ (rD a) (rD b) = some (rD (a * b)) := by
  have := Ratio_mul ha hb
  simp only [rD_obj] at this ⊢
  simp only [gOwn, and_self, if_true]
  exact this
/-- sums[key] = sums[key] + ratio if key in sums else ratio -/
theorem sum_put {i j n : Nat} {env : DEnv} {l : PL} {fl : Fl} {k : KY} {r : Rat} (hfl : fl ≠ .fz) (hi : env[i]? = some (some (.dic (dks l) (dvs rD l), fl))) (hj : env[j]? = some (some (kD k, .fz))) (hn : env[n]? = some (some (rD r, .fz)))
    (hl : l.length < smallL) (hok : ∀ e ∈ l, Ok e.2) (hr : Ok r) :
    dDPut i (dVar j) (dIfE (dB (dDIn false (dVar j) (dPk i))) (dBin (gOwn 0 m_Ratio___add__) (dDGet (dPk i) (dVar j)) (dVar n)) (dVar n)) env = some (.nx (env.set i (some (.dic (dks (acc1 l (k, r))) (dvs rD (acc1 l (k, r))), fl)))) := by
  have v1 : dVar j env = some (kD k) := by simp [dVar, hj]
  have v2 : dVar n env = some (rD r) := by simp [dVar, hn]
  have v3 : dPk i env = some (.dic (dks l) (dvs rD l)) := by simp [dPk, hi]
  have g : getK (kN k) (dks l) (dvs rD l) = (look k l).map rD := getK_eq rD k l
  have hd : dDIn false (dVar j) (dPk i) env = some (.bl (look k l).isSome) := by
    simp only [dDIn, v1, v3, tkey_kD, g]
    cases look k l <;> rfl
  have hv : dIfE (dB (dDIn false (dVar j) (dPk i))) (dBin (gOwn 0 m_Ratio___add__) (dDGet (dPk i) (dVar j)) (dVar n)) (dVar n) env = some (rD (match look k l with
      | some s => s + r
      | none => r)) := by
    simp only [dIfE, dB, hd]
    cases q : look k l with
    | none => simp [v2]
    | some s =>
      have ho := own_add (hok _ (look_mem q)) hr
      simp only [Option.isSome_some]
      simp only [dBin, dDGet, v1, v2, v3, tkey_kD, g, q, Option.map_some]
      exact ho
  unfold dDPut
  simp only [hv, v1, hi, if_neg hfl, tkey_kD, dks_length, if_pos hl]
  rw [putKs_eq k (match look k l with
      | some s => s + r
      | none => r), putVs_eq rD k]
  rfl

abbrev IT := (Bool × List Str) × Str × Rat
def itD (t : IT) : D := .tup [cyD t.1.1 t.1.2, .str t.2.1, rD t.2.2]
def itK (t : IT) : KY × Rat := (tk t.1.2 t.2.1, t.2.2)
structure ItOk (kind : Str) (t : IT) : Prop where
  w : kind = "number" → t.2.1 = ""
  s : ∀ s ∈ t.1.2, s.length ≤ smallL
  l : t.1.2.length ≤ smallL
def pie (kind : Str) (tm : D) (l : PL) (a b c d : Option (D × Fl)) : DEnv := [some (.obj 1 [] [], .me), some (.str kind, .fz), some (tm, .fz), some (.dic (dks l) (dvs rD l), .ow), a, b, c, d]
def bInit : DS := (dSeq (dIf (dAnd (dB (dBin (gEqA false) (dVar 1) (dC (.str "number")))) (dB (dBin (gEqA true) (dVar 5) (dC (.str ""))))) dNo dNext) (dSeq (dSet 7 (dCall 2 m_term_key [] (dCons (dVar 4) (dCons (dVar 5) dNil)))) (dDPut 3 (dVar 7) (dIfE (dB (dDIn false (dVar 7) (dPk 3))) (dBin (gOwn 0 m_Ratio___add__) (dDGet (dPk 3) (dVar 7)) (dVar 6)) (dVar 6)))))
theorem init_step {kind : Str} {tm : D} {l : PL} {t : IT} {a b c d : Option (D × Fl)} (ht : ItOk kind t) (hl : l.length < smallL) (hok : ∀ e ∈ l, Ok e.2) (hr : Ok t.2.2) :
    ∃ a' b' c' d', tgtE (.tp [4, 5, 6]) (itD t) (pie kind tm l a b c d) = some (pie kind tm l a' b' c' d) ∧ bInit (pie kind tm l a' b' c' d) = some (.nx (pie kind tm (acc1 l (itK t)) a' b' c' d')) := by
  refine ⟨some (cyD t.1.1 t.1.2, .fz), some (.str t.2.1, .fz), some (rD t.2.2, .fz), some (kD (tk t.1.2 t.2.1), .fz), rfl, ?_⟩
  have hc : dAnd (dB (dBin (gEqA false) (dVar 1) (dC (.str "number")))) (dB (dBin (gEqA true) (dVar 5) (dC (.str "")))) (pie kind tm l (some (cyD t.1.1 t.1.2, .fz)) (some (.str t.2.1, .fz)) (some (rD t.2.2, .fz)) d) = some false := by
    simp only [dAnd, dB, dBin, dVar, dC, pie, List.getElem?_cons_zero, List.getElem?_cons_succ, gEqA_str, Bool.false_xor]
    by_cases h : kind = Str.ofString "number"
    · have := ht.w h
      simp [h, this]
    · simp [h]
  unfold bInit
  have hk := term_key_eq (b := t.1.1) (cs := t.1.2) (w := t.2.1) ht.s ht.l
  have hs := sum_put (i := 3) (j := 7) (n := 6) (env := pie kind tm l (some (cyD t.1.1 t.1.2, .fz)) (some (.str t.2.1, .fz)) (some (rD t.2.2, .fz)) (some (kD (tk t.1.2 t.2.1), .fz))) (l := l) (fl := .ow) (k := tk t.1.2 t.2.1) (r := t.2.2) (by decide) rfl rfl rfl hl hok hr
  have hset : dSet 7 (dCall 2 m_term_key [] (dCons (dVar 4) (dCons (dVar 5) dNil))) (pie kind tm l (some (cyD t.1.1 t.1.2, .fz)) (some (.str t.2.1, .fz)) (some (rD t.2.2, .fz)) d) = some (.nx (pie kind tm l (some (cyD t.1.1 t.1.2, .fz)) (some (.str t.2.1, .fz)) (some (rD t.2.2, .fz)) (some (kD (tk t.1.2 t.2.1), .fz)))) := by
    simp [dSet, dCall, dCons, dNil, dVar, pie, hk]
  simp only [dSeq, dIf, hc, dNext, hset, hs]
  rfl
theorem put_len {α : Type} (k : KY) (v : α) : ∀ l : List (KY × α), (put k v l).length ≤ l.length + 1
  | [] => Nat.le_refl _
  | e :: l => by
    unfold put
    split
    · simp
    · have := put_len k v l
      simp only [List.length_cons]; omega
theorem acc1_len (l : PL) (e : KY × Rat) : (acc1 l e).length ≤ l.length + 1 := put_len _ _ _
theorem acc_len (m : PL) : ∀ l : PL, (acc l m).length ≤ l.length + m.length := by
  induction m with
  | nil => intro l; exact Nat.le_refl _
  | cons e m ih =>
    intro l
    have h1 := ih (acc1 l e)
    have h2 := acc1_len l e
    show (acc (acc1 l e) m).length ≤ _
    rw [List.length_cons]
    omega
theorem init_loop {kind : Str} {tm : D} {m : Nat} (hm : 0 < m) (hm2 : m < 2 ^ 4000) : ∀ {ts : List IT} {l : PL} {b c : Nat} {x y z u : Option (D × Fl)}, (∀ t ∈ ts, ItOk kind t) → Fit m b l → Fit m c (ts.map itK) → b + c < 2 ^ 4000 → l.length + ts.length ≤ smallL →
    ∃ x' y' z' u', forL (.tp [4, 5, 6]) bInit (ts.map itD) (pie kind tm l x y z u) = some (.nx (pie kind tm (acc l (ts.map itK)) x' y' z' u')) := by
  intro ts
  induction ts with
  | nil => intro l b c x y z u _ _ _ _ _; exact ⟨x, y, z, u, rfl⟩
  | cons t ts ih =>
    intro l b c x y z u ht hl hc hb hz
    rw [List.length_cons] at hz
    have hn := hc.n
    rw [List.map_cons, nr] at hn
    have it : In m t.2.2 := hc.i (itK t) (by rw [List.map_cons]; exact List.mem_cons_self)
    have hl1 : Fit m (b + (zz m t.2.2).natAbs) (acc1 l (itK t)) := fit_acc1 hl it (Nat.le_refl _)
    have hrest : Fit m (nr m (ts.map itK)) (ts.map itK) := ⟨fun e he => hc.i e (by rw [List.map_cons]; exact List.mem_cons_of_mem _ he), Nat.le_refl _⟩
    have e1 : (itK t).2 = t.2.2 := rfl
    rw [e1] at hn
    obtain ⟨a', b', c', d', h1, h2⟩ := init_step (kind := kind) (tm := tm) (l := l) (t := t) (a := x) (b := y) (c := z) (d := u) (ht t List.mem_cons_self) (by omega) (hl.ok hm hm2 (by omega)) (ok_of hm it hm2 (by omega))
    have hlen := acc1_len l (itK t)
    obtain ⟨x', y', z', u', h3⟩ := ih (l := acc1 l (itK t)) (x := a') (y := b') (z := c') (u := d') (fun s hs => ht s (List.mem_cons_of_mem _ hs)) hl1 hrest (by omega) (by omega)
    refine ⟨x', y', z', u', ?_⟩
    rw [List.map_cons, forL]
    simp only [h1, h2, h3]
    rfl
theorem ik1 : putN "kind" [] = [("kind" : Str)] := by rfl
theorem ik2 : putN "coefficients" ["kind"] = [("kind" : Str), "coefficients"] := by rfl
theorem ik3 : putN "terms" ["kind", "coefficients"] = [("kind" : Str), "coefficients", "terms"] := by rfl
theorem id1 (a : D) : putD "kind" a [] [] = [a] := by rfl
theorem id2 (a b : D) : putD "coefficients" b ["kind"] [a] = [a, b] := by rfl
theorem id3 (a b c : D) : putD "terms" c ["kind", "coefficients"] [a, b] = [a, b, c] := by rfl
theorem lk_co2 (a b : D) : lookND "coefficients" ["kind", "coefficients"] [a, b] = some b := by rfl
theorem truO_rat {c : DP} {env : DEnv} {q : Rat} (h : c env = some (rD q)) : dTruO 0 m_Ratio___bool__ c env = some (decide (q ≠ 0)) := by
  have := Ratio_bool q
  rw [rD_obj] at h this
  simp only [dTruO, h, this, if_true]
/-- {key: sums[key] for key in sorted(sums) if sums[key]}: the dict in g -/
theorem coeffs {i : Nat} {g : DP} {env : DEnv} {l : PL} (nd : (l.map (·.1)).Nodup) (hl : l.length ≤ smallL) (hg : g env = some (.dic (dks l) (dvs rD l))) (hg2 : ∀ k : KY, g ((wipeE env [i]).set i (some (kD k, .fz))) = some (.dic (dks l) (dvs rD l))) (hi : ∀ k : KY, ((wipeE env [i]).set i (some (kD k, .fz)))[i]? = some (some (kD k, .fz))) :
    dDc [i] (.nm i) (dIt (dSorted g)) (dTruO 0 m_Ratio___bool__ (dDGet g (dVar i))) (dVar i) (dDGet g (dVar i)) env = some (.dic (dks (canon l)) (dvs rD (canon l))) := by
  have e1 : dks l = (l.map (·.1)).map kD := by unfold dks; rw [List.map_map]; rfl
  have hz : ((l.map (·.1)).map kD).length ≤ smallL := by simpa using hl
  have hs : dIt (dSorted g) env = some (((l.map (·.1)).mergeSort keyLe).map kD) := by
    simp only [dIt, dSorted, hg, srcD, e1, hz, sortOk_kD, and_self, if_true, sortD_kD]
  have p := List.mergeSort_perm (l.map (·.1)) keyLe
  have hz2 : (((l.map (·.1)).mergeSort keyLe).map kD).length ≤ smallL := by simpa using hl
  have hloop := dcL_canK (i := i) (c := dTruO 0 m_Ratio___bool__ (dDGet g (dVar i))) (fk := dVar i) (fv := dDGet g (dVar i)) (e := wipeE env [i]) (l := l) (ks := (l.map (·.1)).mergeSort keyLe) (done := []) (fun k hk => p.mem_iff.mp hk) (by simpa using p.nodup_iff.mpr nd) (fun k r hr => by
    have v : dVar i ((wipeE env [i]).set i (some (kD k, .fz))) = some (kD k) := by simp only [dVar, hi k]
    have gg : dDGet g (dVar i) ((wipeE env [i]).set i (some (kD k, .fz))) = some (rD r) := by
      simp only [dDGet, hg2 k, v, tkey_kD, getK_eq, hr, Option.map_some]
    exact ⟨truO_rat gg, v, gg⟩)
  unfold dDc
  simp only [hs, if_pos hz2]
  have hloop' : dcL (.nm i) (dTruO 0 m_Ratio___bool__ (dDGet g (dVar i))) (dVar i) (dDGet g (dVar i)) (((l.map (·.1)).mergeSort keyLe).map kD) (wipeE env [i]) [] [] = some (dks (canon l), dvs rD (canon l)) := hloop
  rw [hloop']
  rfl
theorem Poly_init {kind : Str} {ts : List IT} {m c : Nat} (hm : 0 < m) (hm2 : m < 2 ^ 4000) (ht : ∀ t ∈ ts, ItOk kind t) (hc : Fit m c (ts.map itK)) (hb : c < 2 ^ 4000) (hz : ts.length ≤ smallL) :
    m_Poly___init__ [.str kind, .lst (ts.map itD)] = some (pD kind (canon (acc [] (ts.map itK)))) := by
  obtain ⟨x, y, z, u, hl⟩ := init_loop (kind := kind) (tm := .lst (ts.map itD)) hm hm2 (l := []) (x := none) (y := none) (z := none) (u := none) ht (fit_nil m) hc (by omega) (by simpa using hz)
  have nd : ((acc [] (ts.map itK)).map (·.1)).Nodup := acc_nodup (by simp)
  have hlen : (acc [] (ts.map itK)).length ≤ smallL := by
    have := acc_len (ts.map itK) []
    simp at this
    omega
  generalize acc [] (ts.map itK) = L at hl nd hlen
  have hcl : (canon L).length ≤ smallL := Nat.le_trans (canon_len L) hlen
  have hco := coeffs (i := 7) (g := dPk 3) (env := ((pie kind (.lst (ts.map itD)) L x y z u).set 0 (some (.obj 1 ["kind"] [.str kind], .me)))) nd hlen rfl (fun k => rfl) (fun k => rfl)
  unfold m_Poly___init__ runI d_Poly___init__
  have e0 : (some (D.obj 1 [] [], Fl.me) :: env0 (8 - 1) [.str kind, .lst (ts.map itD)]) = [some (.obj 1 [] [], .me), some (.str kind, .fz), some (.lst (ts.map itD), .fz), none, none, none, none, none] := rfl
  rw [e0]
  have hfor : dFor (.tp [4, 5, 6]) (dIt (dVar 2)) bInit (pie kind (.lst (ts.map itD)) [] none none none none) = some (.nx (pie kind (.lst (ts.map itD)) L x y z u)) := by
    simp only [dFor, dIt, dVar, pie, List.getElem?_cons_zero, List.getElem?_cons_succ]
    exact hl
  have hset : dSetO 3 (dC (.dic [] [])) [some (.obj 1 [] [], .me), some (.str kind, .fz), some (.lst (ts.map itD), .fz), none, none, none, none, none] = some (.nx (pie kind (.lst (ts.map itD)) [] none none none none)) := rfl
  have s1 : dSelf 0 1 "kind" (dVar 1) (pie kind (.lst (ts.map itD)) L x y z u) = some (.nx ((pie kind (.lst (ts.map itD)) L x y z u).set 0 (some (.obj 1 ["kind"] [.str kind], .me)))) := by
    simp [dSelf, pie, dVar, ik1, id1]
  have s2 : dSelf 0 1 "coefficients" (dDc [7] (.nm 7) (dIt (dSorted (dPk 3))) (dTruO 0 m_Ratio___bool__ (dDGet (dPk 3) (dVar 7))) (dVar 7) (dDGet (dPk 3) (dVar 7))) ((pie kind (.lst (ts.map itD)) L x y z u).set 0 (some (.obj 1 ["kind"] [.str kind], .me))) = some (.nx ((pie kind (.lst (ts.map itD)) L x y z u).set 0 (some (.obj 1 ["kind", "coefficients"] [.str kind, .dic (dks (canon L)) (dvs rD (canon L))], .me)))) := by
    unfold dSelf
    rw [hco]
    simp [pie, ik2, id2]
  have s3 : dSelf 0 1 "terms" (dMap gTupleD (dFld 1 "coefficients" (dPk 0))) ((pie kind (.lst (ts.map itD)) L x y z u).set 0 (some (.obj 1 ["kind", "coefficients"] [.str kind, .dic (dks (canon L)) (dvs rD (canon L))], .me))) = some (.nx ((pie kind (.lst (ts.map itD)) L x y z u).set 0 (some (pD kind (canon L), .me)))) := by
    simp [dSelf, pie, dMap, dFld, dPk, gTupleD, lk_co2, ik3, id3, dks_length, hcl, pD]
  have hb2 : (dSeq (dIf (dAnd (dB (dBin (gEqA false) (dVar 1) (dC (.str "number")))) (dB (dBin (gEqA true) (dVar 5) (dC (.str ""))))) dNo dNext) (dSeq (dSet 7 (dCall 2 m_term_key [] (dCons (dVar 4) (dCons (dVar 5) dNil)))) (dDPut 3 (dVar 7) (dIfE (dB (dDIn false (dVar 7) (dPk 3))) (dBin (gOwn 0 m_Ratio___add__) (dDGet (dPk 3) (dVar 7)) (dVar 6)) (dVar 6))))) = bInit := rfl
  rw [hb2]
  simp only [dSeq, hset, hfor, s1, s2, s3]
  rfl
theorem canon_nil : canon [] = [] := by simp [canon, canK]
theorem Poly_init0 (kind : Str) : m_Poly___init__ [.str kind, .lst []] = some (pD kind []) := by
  have h := Poly_init (kind := kind) (ts := []) (m := 1) (c := 0) (by decide) (by decide) (fun t h => by cases h) (fit_nil 1) (by decide) (by decide)
  have e : canon (acc [] (List.map itK [])) = [] := canon_nil
  rw [e] at h
  exact h
theorem poly_of_eq {kind : Str} {l : PL} (nd : (l.map (·.1)).Nodup) (hl : l.length ≤ smallL) : m_poly_of [.str kind, .dic (dks l) (dvs rD l)] = some (pD kind (canon l)) := by
  have hcl : (canon l).length ≤ smallL := Nat.le_trans (canon_len l) hl
  have e0 : env0 4 [.str kind, .dic (dks l) (dvs rD l)] = [some (.str kind, .fz), some (.dic (dks l) (dvs rD l), .fz), none, none] := rfl
  have h0 : dSetO 2 (dMake 3 m_Poly___init__ [] (dCons (dVar 0) (dCons (dLst dNil) dNil))) [some (.str kind, .fz), some (.dic (dks l) (dvs rD l), .fz), none, none] = some (.nx [some (.str kind, .fz), some (.dic (dks l) (dvs rD l), .fz), some (pD kind [], .ow), none]) := by
    simp [dSetO, dMake, dCons, dVar, dLst, dNil, Poly_init0]
  have hco := coeffs (i := 3) (g := dVar 1) (env := [some (.str kind, .fz), some (.dic (dks l) (dvs rD l), .fz), some (pD kind [], .ow), none]) nd hl rfl (fun k => rfl) (fun k => rfl)
  have s1 : dSelf 2 1 "coefficients" (dDc [3] (.nm 3) (dIt (dSorted (dVar 1))) (dTruO 0 m_Ratio___bool__ (dDGet (dVar 1) (dVar 3))) (dVar 3) (dDGet (dVar 1) (dVar 3))) [some (.str kind, .fz), some (.dic (dks l) (dvs rD l), .fz), some (pD kind [], .ow), none] =
      some (.nx [some (.str kind, .fz), some (.dic (dks l) (dvs rD l), .fz), some (.obj 1 ["kind", "coefficients", "terms"] [.str kind, .dic (dks (canon l)) (dvs rD (canon l)), .tup []], .ow), none]) := by
    unfold dSelf
    rw [hco]
    rfl
  have s2 : dSelf 2 1 "terms" (dMap gTupleD (dFld 1 "coefficients" (dPk 2))) [some (.str kind, .fz), some (.dic (dks l) (dvs rD l), .fz), some (.obj 1 ["kind", "coefficients", "terms"] [.str kind, .dic (dks (canon l)) (dvs rD (canon l)), .tup []], .ow), none] =
      some (.nx [some (.str kind, .fz), some (.dic (dks l) (dvs rD l), .fz), some (pD kind (canon l), .ow), none]) := by
    have q : dMap gTupleD (dFld 1 "coefficients" (dPk 2)) [some (.str kind, .fz), some (.dic (dks l) (dvs rD l), .fz), some (.obj 1 ["kind", "coefficients", "terms"] [.str kind, .dic (dks (canon l)) (dvs rD (canon l)), .tup []], .ow), none] = some (.tup (dks (canon l))) := by
      simp [dMap, dFld, dPk, gTupleD, lk_co, dks_length, hcl]
    unfold dSelf
    rw [q]
    rfl
  unfold m_poly_of runD d_poly_of
  rw [e0]
  simp only [dSeq, h0, s1, s2]
  simp [dFrz, frz, dRet, dVar]
end Pd73

/-! k73, mathematics: Poly's methods. -/
namespace Pd73
open PySem PySem.Spec PyProof.Rows L2 Pd

theorem pD_obj (kind : Str) (l : PL) : pD kind l = .obj 1 ["kind", "coefficients", "terms"] [.str kind, .dic (dks l) (dvs rD l), .tup (dks l)] := rfl
theorem f_kind {g : DP} {env : DEnv} {kind : Str} {l : PL} (h : g env = some (pD kind l)) : dFld 1 "kind" g env = some (.str kind) := by
  rw [pD_obj] at h; simp only [dFld, h, if_true, lk_kind]
theorem f_co {g : DP} {env : DEnv} {kind : Str} {l : PL} (h : g env = some (pD kind l)) : dFld 1 "coefficients" g env = some (.dic (dks l) (dvs rD l)) := by
  rw [pD_obj] at h; simp only [dFld, h, if_true, lk_co]
theorem f_terms {g : DP} {env : DEnv} {kind : Str} {l : PL} (h : g env = some (pD kind l)) : dFld 1 "terms" g env = some (.tup (dks l)) := by
  rw [pD_obj] at h; simp only [dFld, h, if_true, lk_terms]
theorem isO_pD {g : DP} {env : DEnv} {kind : Str} {l : PL} (h : g env = some (pD kind l)) : dIsO 1 g env = some (.bl true) := by
  rw [pD_obj] at h; simp only [dIsO, h, if_true]
theorem dget_co {g h : DP} {env : DEnv} {l : PL} {k : KY} {r : Rat} (hg : g env = some (.dic (dks l) (dvs rD l))) (hh : h env = some (kD k)) (hr : look k l = some r) : dDGet g h env = some (rD r) := by
  simp only [dDGet, hg, hh, tkey_kD, getK_eq, hr, Option.map_some]

/-- {key: f(d[key]) for key in terms}: the dict in order -/
theorem dcL_map {i : Nat} {fk fv : DP} {e : DEnv} {φ : Rat → Rat} : ∀ {l done : PL}, ((done ++ l).map (·.1)).Nodup →
    (∀ x ∈ l, fk (e.set i (some (kD x.1, .fz))) = some (kD x.1) ∧ fv (e.set i (some (kD x.1, .fz))) = some (rD (φ x.2))) →
    dcL (.nm i) dYes fk fv (dks l) e (dks done) (dvs rD done) = some (dks (done ++ l.map fun x => (x.1, φ x.2)), dvs rD (done ++ l.map fun x => (x.1, φ x.2))) := by
  intro l
  induction l with
  | nil => intro done _ _; simp [dcL, dks]
  | cons x l ih =>
    intro done nd h
    obtain ⟨h1, h2⟩ := h x List.mem_cons_self
    have hnew : x.1 ∉ done.map (·.1) := by
      rw [List.map_append, List.nodup_append] at nd
      exact fun m => nd.2.2 x.1 m x.1 (by rw [List.map_cons]; exact List.mem_cons_self) rfl
    have hput : put x.1 (φ x.2) done = done ++ [(x.1, φ x.2)] := by
      clear ih h1 h2 h nd
      induction done with
      | nil => rfl
      | cons y d ih =>
        rw [List.map_cons, List.mem_cons] at hnew
        rw [put, if_neg (fun z => hnew (.inl z.symm)), ih fun z => hnew (.inr z)]
        rfl
    show dcL (.nm i) dYes fk fv (kD x.1 :: dks l) e (dks done) (dvs rD done) = _
    rw [dcL]
    simp only [tgtE, dYes, h1, h2, tkey_kD]
    rw [putKs_eq x.1 (φ x.2), putVs_eq rD x.1, hput]
    have := ih (done := done ++ [(x.1, φ x.2)]) (by simpa using nd) fun y hy => h y (List.mem_cons_of_mem _ hy)
    rw [this]
    simp

/-! ### + -/
def sumL (l m : PL) : PL := canon (acc l m)
def bAdd : DS := (dSeq (dSet 4 (dDGet (dFld 1 "coefficients" (dVar 1)) (dVar 3))) (dDPut 2 (dVar 3) (dIfE (dB (dDIn false (dVar 3) (dPk 2))) (dBin (gOwn 0 m_Ratio___add__) (dDGet (dPk 2) (dVar 3)) (dVar 4)) (dVar 4))))
def ade (k1 k2 : Str) (l m s : PL) (a b : Option (D × Fl)) : DEnv := [some (pD k1 l, .fz), some (pD k2 m, .fz), some (.dic (dks s) (dvs rD s), .ow), a, b]
theorem add_loop {k1 k2 : Str} {l m : PL} (nm : (m.map (·.1)).Nodup) {d : Nat} (hd : 0 < d) (hd2 : d < 2 ^ 4000) : ∀ {r s : PL} {b c : Nat} {x y : Option (D × Fl)}, (∀ e ∈ r, e ∈ m) → Fit d b s → Fit d c r → b + c < 2 ^ 4000 → s.length + r.length ≤ smallL →
    ∃ x' y', forL (.nm 3) bAdd (dks r) (ade k1 k2 l m s x y) = some (.nx (ade k1 k2 l m (acc s r) x' y')) := by
  intro r
  induction r with
  | nil => intro s b c x y _ _ _ _ _; exact ⟨x, y, rfl⟩
  | cons e r ih =>
    intro s b c x y he hs hr hb hz
    rw [List.length_cons] at hz
    have hn := hr.n
    rw [nr] at hn
    have ie : In d e.2 := hr.i e List.mem_cons_self
    have hs1 : Fit d (b + (zz d e.2).natAbs) (acc1 s e) := fit_acc1 hs ie (Nat.le_refl _)
    have hr1 : Fit d (nr d r) r := ⟨fun x hx => hr.i x (List.mem_cons_of_mem _ hx), Nat.le_refl _⟩
    have hlk : look e.1 m = some e.2 := mem_look nm (he e List.mem_cons_self)
    have h4 : dSet 4 (dDGet (dFld 1 "coefficients" (dVar 1)) (dVar 3)) (ade k1 k2 l m s (some (kD e.1, .fz)) y) = some (.nx (ade k1 k2 l m s (some (kD e.1, .fz)) (some (rD e.2, .fz)))) := by
      have g := f_co (g := dVar 1) (env := ade k1 k2 l m s (some (kD e.1, .fz)) y) (kind := k2) (l := m) rfl
      have q := dget_co (h := dVar 3) g (k := e.1) rfl hlk
      simp only [dSet, q, Option.map_some]
      rfl
    have h5 := sum_put (i := 2) (j := 3) (n := 4) (env := ade k1 k2 l m s (some (kD e.1, .fz)) (some (rD e.2, .fz))) (l := s) (fl := .ow) (k := e.1) (r := e.2) (by decide) rfl rfl rfl (by omega) (hs.ok hd hd2 (by omega)) (ok_of hd ie hd2 (by omega))
    have hlen := acc1_len s e
    obtain ⟨x', y', h6⟩ := ih (s := acc1 s e) (x := some (kD e.1, .fz)) (y := some (rD e.2, .fz)) (fun z hz => he z (List.mem_cons_of_mem _ hz)) hs1 hr1 (by omega) (by omega)
    refine ⟨x', y', ?_⟩
    show forL (.nm 3) bAdd (kD e.1 :: dks r) _ = _
    have ht : tgtE (.nm 3) (kD e.1) (ade k1 k2 l m s x y) = some (ade k1 k2 l m s (some (kD e.1, .fz)) y) := rfl
    have hbody : bAdd (ade k1 k2 l m s (some (kD e.1, .fz)) y) = some (.nx (ade k1 k2 l m (acc1 s e) (some (kD e.1, .fz)) (some (rD e.2, .fz)))) := by
      unfold bAdd
      simp only [dSeq, h4, h5]
      rfl
    rw [forL]
    simp only [ht, hbody]
    exact h6
theorem Poly_add {kind : Str} {l m : PL} (nl : (l.map (·.1)).Nodup) (nm : (m.map (·.1)).Nodup) {d b c : Nat} (hd : 0 < d) (hd2 : d < 2 ^ 4000) (hl : Fit d b l) (hm : Fit d c m) (hb : b + c < 2 ^ 4000) (hz : l.length + m.length ≤ smallL) :
    m_Poly___add__ [pD kind l, pD kind m] = some (pD kind (sumL l m)) := by
  have e0 : env0 5 [pD kind l, pD kind m] = [some (pD kind l, .fz), some (pD kind m, .fz), none, none, none] := rfl
  have h1 : dIf (dNot (dB (dIsO 1 (dVar 1)))) dNo dNext [some (pD kind l, .fz), some (pD kind m, .fz), none, none, none] = some (.nx [some (pD kind l, .fz), some (pD kind m, .fz), none, none, none]) := by
    have q := isO_pD (g := dVar 1) (env := [some (pD kind l, .fz), some (pD kind m, .fz), none, none, none]) (kind := kind) (l := m) rfl
    simp only [dIf, dNot, dB, q, Option.map_some, Bool.not_true, dNext]
  have hsk : m_same_kind [pD kind l, pD kind m] = some .non := by
    have q1 := f_kind (g := dVar 0) (env := [some (pD kind l, .fz), some (pD kind m, .fz)]) (kind := kind) (l := l) rfl
    have q2 := f_kind (g := dVar 1) (env := [some (pD kind l, .fz), some (pD kind m, .fz)]) (kind := kind) (l := m) rfl
    have e0 : env0 2 [pD kind l, pD kind m] = [some (pD kind l, .fz), some (pD kind m, .fz)] := rfl
    unfold m_same_kind runD d_same_kind
    rw [e0]
    simp only [dIf, dB, dBin, q1, q2, gEqA_str, decide_true, Bool.xor_true, Bool.not_true, dNext]
  have h2 : dDrop (dCall 2 m_same_kind [] (dCons (dVar 0) (dCons (dVar 1) dNil))) [some (pD kind l, .fz), some (pD kind m, .fz), none, none, none] = some (.nx [some (pD kind l, .fz), some (pD kind m, .fz), none, none, none]) := by
    simp [dDrop, dCall, dCons, dNil, dVar, hsk]
  have hz1 : (dks l).length ≤ smallL := by rw [dks_length]; omega
  have h3 : dSetO 2 (dDc [3] (.nm 3) (dIt (dFld 1 "terms" (dVar 0))) dYes (dVar 3) (dDGet (dFld 1 "coefficients" (dVar 0)) (dVar 3))) [some (pD kind l, .fz), some (pD kind m, .fz), none, none, none] = some (.nx (ade kind kind l m l none none)) := by
    have q := f_terms (g := dVar 0) (env := [some (pD kind l, .fz), some (pD kind m, .fz), none, none, none]) (kind := kind) (l := l) rfl
    have hloop := dcL_map (i := 3) (fk := dVar 3) (fv := dDGet (dFld 1 "coefficients" (dVar 0)) (dVar 3)) (e := [some (pD kind l, .fz), some (pD kind m, .fz), none, none, none]) (φ := fun r => r) (l := l) (done := []) (by simpa using nl) (fun x hx => by
      have g := f_co (g := dVar 0) (env := [some (pD kind l, .fz), some (pD kind m, .fz), none, some (kD x.1, .fz), none]) (kind := kind) (l := l) rfl
      exact ⟨rfl, dget_co g (k := x.1) rfl (mem_look nl hx)⟩)
    have hm' : (l.map fun x : KY × Rat => (x.1, x.2)) = l := by simp
    rw [hm'] at hloop
    have hw : wipeE [some (pD kind l, Fl.fz), some (pD kind m, .fz), none, none, none] [3] = [some (pD kind l, Fl.fz), some (pD kind m, .fz), none, none, none] := rfl
    have hloop' : dcL (.nm 3) dYes (dVar 3) (dDGet (dFld 1 "coefficients" (dVar 0)) (dVar 3)) (dks l) [some (pD kind l, .fz), some (pD kind m, .fz), none, none, none] [] [] = some (dks l, dvs rD l) := hloop
    simp only [dSetO, dDc, dIt, q, if_pos hz1, hw, hloop', Option.map_some]
    rfl
  obtain ⟨x, y, h4⟩ := add_loop (k1 := kind) (k2 := kind) (l := l) nm hd hd2 (r := m) (s := l) (x := none) (y := none) (fun _ h => h) hl hm hb (by omega)
  have h5 : dFor (.nm 3) (dIt (dFld 1 "terms" (dVar 1))) bAdd (ade kind kind l m l none none) = some (.nx (ade kind kind l m (acc l m) x y)) := by
    have q := f_terms (g := dVar 1) (env := ade kind kind l m l none none) (kind := kind) (l := m) rfl
    simp only [dFor, dIt, q]
    exact h4
  have nd := acc_nodup (m := m) nl
  have hlen := acc_len m l
  have h6 : dFrz 2 (dRet (dCall 2 m_poly_of [] (dCons (dFld 1 "kind" (dVar 0)) (dCons (dVar 2) dNil)))) (ade kind kind l m (acc l m) x y) = some (.rt (pD kind (sumL l m))) := by
    have hf : frz 2 (ade kind kind l m (acc l m) x y) = [some (pD kind l, .fz), some (pD kind m, .fz), some (.dic (dks (acc l m)) (dvs rD (acc l m)), .fz), x, y] := rfl
    have q := f_kind (g := dVar 0) (env := [some (pD kind l, .fz), some (pD kind m, .fz), some (.dic (dks (acc l m)) (dvs rD (acc l m)), .fz), x, y]) (kind := kind) (l := l) rfl
    have hp := poly_of_eq (kind := kind) nd (by omega)
    have hv : dVar 2 [some (pD kind l, .fz), some (pD kind m, .fz), some (.dic (dks (acc l m)) (dvs rD (acc l m)), .fz), x, y] = some (.dic (dks (acc l m)) (dvs rD (acc l m))) := rfl
    simp only [dFrz, hf, dRet, dCall, dCons, q, hv, dNil, List.append_nil, List.length_cons, List.length_nil, Nat.zero_add, Nat.reduceAdd, if_true, hp, Option.map_some]
    rfl
  have hb2 : (dSeq (dSet 4 (dDGet (dFld 1 "coefficients" (dVar 1)) (dVar 3))) (dDPut 2 (dVar 3) (dIfE (dB (dDIn false (dVar 3) (dPk 2))) (dBin (gOwn 0 m_Ratio___add__) (dDGet (dPk 2) (dVar 3)) (dVar 4)) (dVar 4)))) = bAdd := rfl
  unfold m_Poly___add__ runD d_Poly___add__
  rw [e0, hb2]
  simp only [dSeq, h1, h2, h3, h5, h6]
end Pd73

/-! k73, mathematics: scaled, negated, subtracted, multiplied. -/
namespace Pd73
open PySem PySem.Spec PyProof.Rows L2 Pd

/-! ### scaled -/
def sclR (q : Rat) (l : PL) : PL := l.map fun x => (x.1, q * x.2)
theorem sclR_keys (q : Rat) (l : PL) : (sclR q l).map (·.1) = l.map (·.1) := by unfold sclR; rw [List.map_map]; rfl
theorem Poly_scaled {kind : Str} {l : PL} {q : Rat} (nl : (l.map (·.1)).Nodup) (hz : l.length ≤ smallL) (hq : Ok q) (hl : ∀ e ∈ l, Ok e.2) : m_Poly_scaled [pD kind l, rD q] = some (pD kind (canon (sclR q l))) := by
  have e0 : env0 3 [pD kind l, rD q] = [some (pD kind l, .fz), some (rD q, .fz), none] := rfl
  have hz1 : (dks l).length ≤ smallL := by rw [dks_length]; omega
  have h3 : dDc [2] (.nm 2) (dIt (dFld 1 "terms" (dVar 0))) dYes (dVar 2) (dBin (gOwn 0 m_Ratio___mul__) (dVar 1) (dDGet (dFld 1 "coefficients" (dVar 0)) (dVar 2))) [some (pD kind l, .fz), some (rD q, .fz), none] = some (.dic (dks (sclR q l)) (dvs rD (sclR q l))) := by
    have qt := f_terms (g := dVar 0) (env := [some (pD kind l, .fz), some (rD q, .fz), none]) (kind := kind) (l := l) rfl
    have hloop := dcL_map (i := 2) (fk := dVar 2) (fv := dBin (gOwn 0 m_Ratio___mul__) (dVar 1) (dDGet (dFld 1 "coefficients" (dVar 0)) (dVar 2))) (e := [some (pD kind l, .fz), some (rD q, .fz), none]) (φ := fun r => q * r) (l := l) (done := []) (by simpa using nl) (fun x hx => by
      have g := f_co (g := dVar 0) (env := [some (pD kind l, .fz), some (rD q, .fz), some (kD x.1, .fz)]) (kind := kind) (l := l) rfl
      have g2 := dget_co (h := dVar 2) g (k := x.1) rfl (mem_look nl hx)
      have hv : dVar 1 [some (pD kind l, .fz), some (rD q, .fz), some (kD x.1, .fz)] = some (rD q) := rfl
      refine ⟨rfl, ?_⟩
      show dBin _ _ _ [some (pD kind l, .fz), some (rD q, .fz), some (kD x.1, .fz)] = _
      simp only [dBin, hv, g2]
      exact own_mul hq (hl x hx))
    have hw : wipeE [some (pD kind l, Fl.fz), some (rD q, .fz), none] [2] = [some (pD kind l, Fl.fz), some (rD q, .fz), none] := rfl
    have hloop' : dcL (.nm 2) dYes (dVar 2) (dBin (gOwn 0 m_Ratio___mul__) (dVar 1) (dDGet (dFld 1 "coefficients" (dVar 0)) (dVar 2))) (dks l) [some (pD kind l, .fz), some (rD q, .fz), none] [] [] = some (dks (sclR q l), dvs rD (sclR q l)) := hloop
    simp only [dDc, dIt, qt, if_pos hz1, hw, hloop', Option.map_some]
  have qk := f_kind (g := dVar 0) (env := [some (pD kind l, .fz), some (rD q, .fz), none]) (kind := kind) (l := l) rfl
  have hp := poly_of_eq (kind := kind) (l := sclR q l) (by rw [sclR_keys]; exact nl) (by simpa [sclR] using hz)
  unfold m_Poly_scaled runD d_Poly_scaled
  rw [e0]
  simp only [dRet, dCall, dCons, qk, h3, dNil, List.append_nil, List.length_cons, List.length_nil, Nat.zero_add, Nat.reduceAdd, if_true, hp, Option.map_some]
theorem meth_scaled {g h : DP} {env : DEnv} {kind : Str} {l : PL} {q : Rat} (hg : g env = some (pD kind l)) (hh : h env = some (rD q)) {o : D} (hm : m_Poly_scaled [pD kind l, rD q] = some o) : dMeth 1 "scaled" 2 m_Poly_scaled [] g (dCons h dNil) env = some o := by
  rw [pD_obj] at hg hm
  have hn : ¬ (Str.ofString "scaled") ∈ [Str.ofString "kind", Str.ofString "coefficients", Str.ofString "terms"] := by decide
  simp only [dMeth, hg, hn, not_false_eq_true, and_self, if_true, dCons, hh, dNil, List.append_nil, List.length_cons, List.length_nil, Nat.zero_add, Nat.reduceAdd, hm]
theorem ok_one : Ok 1 := ⟨by decide, by decide⟩
theorem ok_neg1 : Ok (-1) := ⟨by decide, by decide⟩
theorem dMk1 {h : DP} {env : DEnv} {i : Int} (hh : h env = some (.int i)) : dMake 3 m_Ratio___init___1 [.int 1] (dCons h dNil) env = some (rD i) := by
  have := Ratio_init1 i
  simp only [dMake, dCons, hh, dNil, List.cons_append, List.nil_append, List.length_cons, List.length_nil, Nat.zero_add, Nat.reduceAdd, if_true, this]
theorem Poly_neg {kind : Str} {l : PL} (nl : (l.map (·.1)).Nodup) (hz : l.length ≤ smallL) (hl : ∀ e ∈ l, Ok e.2) : m_Poly___neg__ [pD kind l] = some (pD kind (canon (sclR (-1) l))) := by
  have e0 : env0 1 [pD kind l] = [some (pD kind l, .fz)] := rfl
  have h1 := dMk1 (h := dNeg (dC (.int 1))) (env := [some (pD kind l, .fz)]) (i := -1) rfl
  have e1 : (((-1 : Int) : Int) : Rat) = (-1 : Rat) := rfl
  rw [e1] at h1
  have h2 := meth_scaled (g := dVar 0) (h := dMake 3 m_Ratio___init___1 [.int 1] (dCons (dNeg (dC (.int 1))) dNil)) (env := [some (pD kind l, .fz)]) (kind := kind) (l := l) rfl h1 (Poly_scaled nl hz ok_neg1 hl)
  unfold m_Poly___neg__ runD d_Poly___neg__
  rw [e0]
  simp only [dRet, h2, Option.map_some]
theorem In_int (m : Nat) (i : Int) : In m (i : Rat) ∧ zz m i = i * m := in_of (by rw [Rat.intCast_mul]; rfl)
theorem fit_scl {m k b c : Nat} {q : Rat} {l : PL} (hq : In k q) (hc : (zz k q).natAbs ≤ c) (h : Fit m b l) : Fit (k * m) (c * b) (sclR q l) := by
  obtain ⟨hi, hn⟩ := h
  refine ⟨fun e he => ?_, ?_⟩
  · obtain ⟨x, hx, rfl⟩ := List.mem_map.mp he
    exact (zz_mul hq (hi x hx)).1
  · have : nr (k * m) (sclR q l) = (zz k q).natAbs * nr m l := by
      clear hn
      induction l with
      | nil => rfl
      | cons e l ih =>
        show (zz (k * m) (q * e.2)).natAbs + nr (k * m) (sclR q l) = _
        rw [ih fun x hx => hi x (List.mem_cons_of_mem _ hx), (zz_mul hq (hi e List.mem_cons_self)).2, Int.natAbs_mul, nr, Nat.mul_add]
    rw [this]
    exact Nat.mul_le_mul hc hn
theorem fit_scl_neg {m b : Nat} {l : PL} (h : Fit m b l) : Fit m b (sclR (-1) l) := by
  have := fit_scl (k := 1) (c := 1) (q := ((-1 : Int) : Rat)) (In_int 1 (-1)).1 (by rw [(In_int 1 (-1)).2]; decide) h
  rw [Nat.one_mul, Nat.one_mul] at this
  exact this
theorem gOwn1 {m : List D → Option D} {k1 k2 : Str} {l1 l2 : PL} : gOwn 1 m (pD k1 l1) (pD k2 l2) = m [pD k1 l1, pD k2 l2] := by
  rw [pD_obj, pD_obj]
  simp only [gOwn, and_self, if_true]
theorem negO_pD {g : DP} {env : DEnv} {kind : Str} {l : PL} {m : List D → Option D} {o : D} (h : g env = some (pD kind l)) (hm : m [pD kind l] = some o) : dNegO 1 m g env = some o := by
  rw [pD_obj] at h hm
  simp only [dNegO, h, if_true, hm]
def subL (l m : PL) : PL := sumL l (canon (sclR (-1) m))
theorem Poly_sub {kind : Str} {l m : PL} (nl : (l.map (·.1)).Nodup) (nm : (m.map (·.1)).Nodup) {d b c : Nat} (hd : 0 < d) (hd2 : d < 2 ^ 4000) (hl : Fit d b l) (hm : Fit d c m) (hb : b + c < 2 ^ 4000) (hz : l.length + m.length ≤ smallL) :
    m_Poly___sub__ [pD kind l, pD kind m] = some (pD kind (subL l m)) := by
  have e0 : env0 2 [pD kind l, pD kind m] = [some (pD kind l, .fz), some (pD kind m, .fz)] := rfl
  have q := isO_pD (g := dVar 1) (env := [some (pD kind l, .fz), some (pD kind m, .fz)]) (kind := kind) (l := m) rfl
  have hn := Poly_neg (kind := kind) nm (by omega) (hm.ok hd hd2 (by omega))
  have nm2 : ((sclR (-1) m).map (·.1)).Nodup := by rw [sclR_keys]; exact nm
  have fm := fit_canon nm2 (fit_scl_neg hm)
  have hlen := canon_len (sclR (-1) m)
  have hlen2 : (sclR (-1) m).length = m.length := by simp [sclR]
  have ha := Poly_add (kind := kind) nl (canon_can nm2).nd hd hd2 hl fm hb (by omega)
  have hneg := negO_pD (g := dVar 1) (env := [some (pD kind l, .fz), some (pD kind m, .fz)]) (kind := kind) (l := m) rfl hn
  have v0 : dVar 0 [some (pD kind l, .fz), some (pD kind m, .fz)] = some (pD kind l) := rfl
  unfold m_Poly___sub__ runD d_Poly___sub__
  rw [e0]
  simp only [dSeq, dIf, dNot, dB, q, Option.map_some, Bool.not_true, dNext, dRet, dBin, v0, hneg, gOwn1, ha]
  rfl

/-! ### * -/
def jn (a b : KY) : KY := ((a.1 ++ b.1).mergeSort strLe, a.2 ++ b.2)
def prodL (l m : PL) : PL := l.flatMap fun a => m.map fun b => (jn a.1 b.1, a.2 * b.2)
def mulL (l m : PL) : PL := canon (acc [] (prodL l m))
theorem fit_row {d d' c : Nat} {a : KY × Rat} {m : PL} (ha : In d a.2) (hm : Fit d' c m) : Fit (d * d') ((zz d a.2).natAbs * c) (m.map fun b => (jn a.1 b.1, a.2 * b.2)) := by
  have h := fit_scl ha (Nat.le_refl _) hm
  have hn : ∀ k : PL, nr (d * d') (k.map fun b => (jn a.1 b.1, a.2 * b.2)) = nr (d * d') (sclR a.2 k) := by
    intro k
    induction k with
    | nil => rfl
    | cons e k ih =>
      show (zz (d * d') (a.2 * e.2)).natAbs + _ = (zz (d * d') (a.2 * e.2)).natAbs + _
      rw [ih]
      rfl
  refine ⟨fun e he => ?_, ?_⟩
  · obtain ⟨x, hx, rfl⟩ := List.mem_map.mp he
    exact (zz_mul ha (hm.i x hx)).1
  · rw [hn]; exact h.n
theorem fit_prod {d d' c : Nat} {m : PL} (hm : Fit d' c m) : ∀ {l : PL} {b : Nat}, Fit d b l → Fit (d * d') (b * c) (prodL l m) := by
  intro l
  induction l with
  | nil => intro b _; exact (fit_nil _).mono (Nat.zero_le _)
  | cons a l ih =>
    intro b hl
    have hn := hl.n
    rw [nr] at hn
    have h1 := fit_row (a := a) (hl.i a List.mem_cons_self) hm
    have h2 := ih (b := nr d l) ⟨fun x hx => hl.i x (List.mem_cons_of_mem _ hx), Nat.le_refl _⟩
    have h3 := fit_append h1 h2
    have : (zz d a.2).natAbs * c + nr d l * c ≤ b * c := by rw [← Nat.add_mul]; exact Nat.mul_le_mul_right _ hn
    exact h3.mono this
def mue (k1 k2 : Str) (l m s : PL) (a b c d : Option (D × Fl)) : DEnv := [some (pD k1 l, .fz), some (pD k2 m, .fz), some (.dic (dks s) (dvs rD s), .ow), a, b, c, d]
def bMul : DS := (dSeq (dSet 5 (dTup (dCons (dMap gTuple (dSorted (dBin gAdd (dBin gIx (dVar 3) (dC (.int 0))) (dBin gIx (dVar 4) (dC (.int 0)))))) (dCons (dBin gAdd (dBin gIx (dVar 3) (dC (.int 1))) (dBin gIx (dVar 4) (dC (.int 1)))) dNil)))) (dSeq (dSet 6 (dBin (gOwn 0 m_Ratio___mul__) (dDGet (dFld 1 "coefficients" (dVar 0)) (dVar 3)) (dDGet (dFld 1 "coefficients" (dVar 1)) (dVar 4)))) (dDPut 2 (dVar 5) (dIfE (dB (dDIn false (dVar 5) (dPk 2))) (dBin (gOwn 0 m_Ratio___add__) (dDGet (dPk 2) (dVar 5)) (dVar 6)) (dVar 6)))))
structure PairOk (a b : KY) : Prop where
  c : a.1.length + b.1.length ≤ smallL
  w : a.2.length + b.2.length ≤ smallL
theorem mul_step {k1 k2 : Str} {l m s : PL} {a b : KY × Rat} {x y : Option (D × Fl)} (hp : PairOk a.1 b.1) (ha : look a.1 l = some a.2) (hb : look b.1 m = some b.2) (oa : Ok a.2) (ob : Ok b.2) (oab : Ok (a.2 * b.2)) (hs : s.length < smallL) (os : ∀ e ∈ s, Ok e.2) :
    bMul (mue k1 k2 l m s (some (kD a.1, .fz)) (some (kD b.1, .fz)) x y) = some (.nx (mue k1 k2 l m (acc1 s (jn a.1 b.1, a.2 * b.2)) (some (kD a.1, .fz)) (some (kD b.1, .fz)) (some (kD (jn a.1 b.1), .fz)) (some (rD (a.2 * b.2), .fz)))) := by
  have i0 : ∀ k : KY, gIx (kD k) (.int 0) = some (.tup (k.1.map .str)) := fun _ => rfl
  have i1 : ∀ k : KY, gIx (kD k) (.int 1) = some (.str k.2) := fun _ => rfl
  have hc := hp.c
  have hw := hp.w
  have a1 : gAdd (.tup (a.1.1.map .str)) (.tup (b.1.1.map .str)) = some (.tup ((a.1.1 ++ b.1.1).map .str)) := by
    rw [gAdd_tup (by simpa using hc), List.map_append]
  have a2 := gAdd_str hw
  have hl3 : (((a.1.1 ++ b.1.1)).map D.str).length ≤ smallL := by simpa using hc
  have v3 : dVar 3 (mue k1 k2 l m s (some (kD a.1, .fz)) (some (kD b.1, .fz)) x y) = some (kD a.1) := rfl
  have v4 : dVar 4 (mue k1 k2 l m s (some (kD a.1, .fz)) (some (kD b.1, .fz)) x y) = some (kD b.1) := rfl
  have h5 : dSet 5 (dTup (dCons (dMap gTuple (dSorted (dBin gAdd (dBin gIx (dVar 3) (dC (.int 0))) (dBin gIx (dVar 4) (dC (.int 0)))))) (dCons (dBin gAdd (dBin gIx (dVar 3) (dC (.int 1))) (dBin gIx (dVar 4) (dC (.int 1)))) dNil))) (mue k1 k2 l m s (some (kD a.1, .fz)) (some (kD b.1, .fz)) x y) = some (.nx (mue k1 k2 l m s (some (kD a.1, .fz)) (some (kD b.1, .fz)) (some (kD (jn a.1 b.1), .fz)) y)) := by
    simp only [dSet, dTup, dCons, dNil, dMap, dSorted, dBin, dC, v3, v4, i0, i1, a1, a2, srcD, hl3, sortOk_str, and_self, if_true, sortD_str, gTuple, Option.map_some]
    rfl
  have g0 := dget_co (h := dVar 3) (f_co (g := dVar 0) (env := mue k1 k2 l m s (some (kD a.1, .fz)) (some (kD b.1, .fz)) (some (kD (jn a.1 b.1), .fz)) y) (kind := k1) (l := l) rfl) (k := a.1) rfl ha
  have g1 := dget_co (h := dVar 4) (f_co (g := dVar 1) (env := mue k1 k2 l m s (some (kD a.1, .fz)) (some (kD b.1, .fz)) (some (kD (jn a.1 b.1), .fz)) y) (kind := k2) (l := m) rfl) (k := b.1) rfl hb
  have h6 : dSet 6 (dBin (gOwn 0 m_Ratio___mul__) (dDGet (dFld 1 "coefficients" (dVar 0)) (dVar 3)) (dDGet (dFld 1 "coefficients" (dVar 1)) (dVar 4))) (mue k1 k2 l m s (some (kD a.1, .fz)) (some (kD b.1, .fz)) (some (kD (jn a.1 b.1), .fz)) y) = some (.nx (mue k1 k2 l m s (some (kD a.1, .fz)) (some (kD b.1, .fz)) (some (kD (jn a.1 b.1), .fz)) (some (rD (a.2 * b.2), .fz)))) := by
    simp only [dSet, dBin, g0, g1, own_mul oa ob, Option.map_some]
    rfl
  have h7 := sum_put (i := 2) (j := 5) (n := 6) (env := mue k1 k2 l m s (some (kD a.1, .fz)) (some (kD b.1, .fz)) (some (kD (jn a.1 b.1), .fz)) (some (rD (a.2 * b.2), .fz))) (l := s) (fl := .ow) (k := jn a.1 b.1) (r := a.2 * b.2) (by decide) rfl rfl rfl hs os oab
  unfold bMul
  simp only [dSeq, h5, h6, h7]
  rfl
/-- what the loops of __mul__ need of the factors; KS: the keys of the product -/
structure MulOk (l m : PL) (KS : List KY) (d d' b c : Nat) : Prop where
  nl : (l.map (·.1)).Nodup
  nm : (m.map (·.1)).Nodup
  d0 : 0 < d
  d0' : 0 < d'
  dd : d * d' < 2 ^ 4000
  fl : Fit d b l
  fm : Fit d' c m
  hb : b < 2 ^ 4000
  hc : c < 2 ^ 4000
  bc : b * c < 2 ^ 4000
  pr : ∀ x ∈ l, ∀ y ∈ m, PairOk x.1 y.1
  ks : ∀ x ∈ l, ∀ y ∈ m, jn x.1 y.1 ∈ KS
  kz : KS.length < smallL
theorem MulOk.dl {l m : PL} {KS : List KY} {d d' b c : Nat} (h : MulOk l m KS d d' b c) : d < 2 ^ 4000 := Nat.lt_of_le_of_lt (Nat.le_mul_of_pos_right _ h.d0') h.dd
theorem MulOk.dm {l m : PL} {KS : List KY} {d d' b c : Nat} (h : MulOk l m KS d d' b c) : d' < 2 ^ 4000 := Nat.lt_of_le_of_lt (Nat.le_mul_of_pos_left _ h.d0) h.dd
/-- a dict of the keys KS -/
structure InK (KS : List KY) (s : PL) : Prop where
  nd : (s.map (·.1)).Nodup
  sub : ∀ k ∈ s.map (·.1), k ∈ KS
theorem InK.len {KS : List KY} {s : PL} (h : InK KS s) : s.length ≤ KS.length := by
  have := h.nd.length_le_of_subset (fun k hk => h.sub k hk)
  rwa [List.length_map] at this
theorem InK.acc1 {KS : List KY} {s : PL} {e : KY × Rat} (h : InK KS s) (he : e.1 ∈ KS) : InK KS (acc1 s e) := ⟨acc1_nodup h.nd, fun k hk => by
  rcases acc1_keys s e k hk with z | z
  · exact h.sub k z
  · rw [z]; exact he⟩
theorem mul_inner {k1 k2 : Str} {l m : PL} {KS : List KY} {d d' b c : Nat} (H : MulOk l m KS d d' b c) {a : KY × Rat} (ha : a ∈ l) : ∀ {r s : PL} {B C : Nat} {x y z : Option (D × Fl)}, (∀ e ∈ r, e ∈ m) → InK KS s → Fit (d * d') B s → Fit (d * d') C (r.map fun e => (jn a.1 e.1, a.2 * e.2)) → B + C < 2 ^ 4000 →
    ∃ x' y' z', forL (.nm 4) bMul (dks r) (mue k1 k2 l m s (some (kD a.1, .fz)) x y z) = some (.nx (mue k1 k2 l m (acc s (r.map fun e => (jn a.1 e.1, a.2 * e.2))) (some (kD a.1, .fz)) x' y' z')) ∧ InK KS (acc s (r.map fun e => (jn a.1 e.1, a.2 * e.2))) := by
  intro r
  induction r with
  | nil => intro s B C x y z _ hk _ _ _; exact ⟨x, y, z, rfl, hk⟩
  | cons e r ih =>
    intro s B C x y z he hk hs hr hb
    have hm := he e List.mem_cons_self
    have hn := hr.n
    rw [List.map_cons, nr] at hn
    have hd : 0 < d * d' := Nat.mul_pos H.d0 H.d0'
    have ie : In (d * d') (a.2 * e.2) := hr.i (jn a.1 e.1, a.2 * e.2) (by rw [List.map_cons]; exact List.mem_cons_self)
    have dsp : ∀ (p : KY) (q : Rat), (p, q).2 = q := fun _ _ => rfl
    rw [dsp] at hn
    have hs1 := fit_acc1 (e := (jn a.1 e.1, a.2 * e.2)) hs ie (Nat.le_refl _)
    have hr1 : Fit (d * d') (nr (d * d') (r.map fun e => (jn a.1 e.1, a.2 * e.2))) (r.map fun e => (jn a.1 e.1, a.2 * e.2)) := ⟨fun w hw => hr.i w (by rw [List.map_cons]; exact List.mem_cons_of_mem _ hw), Nat.le_refl _⟩
    have hk1 := hk.acc1 (e := (jn a.1 e.1, a.2 * e.2)) (H.ks a ha e hm)
    have hlen := hk.len
    have hkz := H.kz
    have hst := mul_step (k1 := k1) (k2 := k2) (l := l) (m := m) (s := s) (a := a) (b := e) (x := y) (y := z) (H.pr a ha e hm) (mem_look H.nl ha) (mem_look H.nm hm) (H.fl.ok H.d0 H.dl H.hb a ha) (H.fm.ok H.d0' H.dm H.hc e hm) (ok_of hd ie H.dd (by omega)) (by omega) (hs.ok hd H.dd (by omega))
    obtain ⟨x', y', z', h1, h2⟩ := ih (s := acc1 s (jn a.1 e.1, a.2 * e.2)) (x := some (kD e.1, .fz)) (y := some (kD (jn a.1 e.1), .fz)) (z := some (rD (a.2 * e.2), .fz)) (fun w hw => he w (List.mem_cons_of_mem _ hw)) hk1 hs1 hr1 (by rw [dsp]; omega)
    refine ⟨x', y', z', ?_, h2⟩
    show forL (.nm 4) bMul (kD e.1 :: dks r) _ = _
    have ht : tgtE (.nm 4) (kD e.1) (mue k1 k2 l m s (some (kD a.1, .fz)) x y z) = some (mue k1 k2 l m s (some (kD a.1, .fz)) (some (kD e.1, .fz)) y z) := rfl
    rw [forL]
    simp only [ht, hst]
    exact h1
theorem mul_outer {k1 k2 : Str} {l m : PL} {KS : List KY} {d d' b c : Nat} (H : MulOk l m KS d d' b c) : ∀ {r s : PL} {B C : Nat} {w x y z : Option (D × Fl)}, (∀ e ∈ r, e ∈ l) → InK KS s → Fit (d * d') B s → Fit (d * d') C (prodL r m) → B + C < 2 ^ 4000 →
    ∃ w' x' y' z', forL (.nm 3) (dFor (.nm 4) (dIt (dFld 1 "terms" (dVar 1))) bMul) (dks r) (mue k1 k2 l m s w x y z) = some (.nx (mue k1 k2 l m (acc s (prodL r m)) w' x' y' z')) ∧ InK KS (acc s (prodL r m)) := by
  intro r
  induction r with
  | nil => intro s B C w x y z _ hk _ _ _; exact ⟨w, x, y, z, rfl, hk⟩
  | cons a r ih =>
    intro s B C w x y z he hk hs hr hb
    have ha := he a List.mem_cons_self
    have hp : prodL (a :: r) m = (m.map fun e => (jn a.1 e.1, a.2 * e.2)) ++ prodL r m := rfl
    have hn := hr.n
    rw [hp, nr_append] at hn
    have f1 : Fit (d * d') (nr (d * d') (m.map fun e => (jn a.1 e.1, a.2 * e.2))) (m.map fun e => (jn a.1 e.1, a.2 * e.2)) := ⟨fun v hv => hr.i v (by rw [hp]; exact List.mem_append_left _ hv), Nat.le_refl _⟩
    have f2 : Fit (d * d') (nr (d * d') (prodL r m)) (prodL r m) := ⟨fun v hv => hr.i v (by rw [hp]; exact List.mem_append_right _ hv), Nat.le_refl _⟩
    obtain ⟨x', y', z', h1, h2⟩ := mul_inner (k1 := k1) (k2 := k2) H ha (r := m) (s := s) (x := x) (y := y) (z := z) (fun _ h => h) hk hs f1 (by omega)
    have hs2 := fit_acc hs f1
    obtain ⟨w', x2, y2, z2, h3, h4⟩ := ih (s := acc s (m.map fun e => (jn a.1 e.1, a.2 * e.2))) (w := some (kD a.1, .fz)) (x := x') (y := y') (z := z') (fun v hv => he v (List.mem_cons_of_mem _ hv)) h2 hs2 f2 (by omega)
    have hacc : acc s (prodL (a :: r) m) = acc (acc s (m.map fun e => (jn a.1 e.1, a.2 * e.2))) (prodL r m) := by rw [hp]; unfold acc; rw [List.foldl_append]
    rw [hacc]
    refine ⟨w', x2, y2, z2, ?_, h4⟩
    show forL (.nm 3) _ (kD a.1 :: dks r) _ = _
    have ht : tgtE (.nm 3) (kD a.1) (mue k1 k2 l m s w x y z) = some (mue k1 k2 l m s (some (kD a.1, .fz)) x y z) := rfl
    have q := f_terms (g := dVar 1) (env := mue k1 k2 l m s (some (kD a.1, .fz)) x y z) (kind := k2) (l := m) rfl
    have hbody : dFor (.nm 4) (dIt (dFld 1 "terms" (dVar 1))) bMul (mue k1 k2 l m s (some (kD a.1, .fz)) x y z) = some (.nx (mue k1 k2 l m (acc s (m.map fun e => (jn a.1 e.1, a.2 * e.2))) (some (kD a.1, .fz)) x' y' z')) := by
      simp only [dFor, dIt, q]
      exact h1
    rw [forL]
    simp only [ht, hbody]
    exact h3
theorem Poly_mul {k1 k2 : Str} {l m : PL} {KS : List KY} {d d' b c : Nat} (H : MulOk l m KS d d' b c) (hk : k1 = "number" ∨ k1 = "matrix") :
    m_Poly___mul__ [pD k1 l, pD k2 m] = some (pD (if k1 = "number" then k2 else "matrix") (mulL l m)) := by
  have e0 : env0 7 [pD k1 l, pD k2 m] = [some (pD k1 l, .fz), some (pD k2 m, .fz), none, none, none, none, none] := rfl
  have q := isO_pD (g := dVar 1) (env := [some (pD k1 l, .fz), some (pD k2 m, .fz), none, none, none, none, none]) (kind := k2) (l := m) rfl
  have h1 : dIf (dNot (dB (dIsO 1 (dVar 1)))) dNo dNext [some (pD k1 l, .fz), some (pD k2 m, .fz), none, none, none, none, none] = some (.nx [some (pD k1 l, .fz), some (pD k2 m, .fz), none, none, none, none, none]) := by
    simp only [dIf, dNot, dB, q, Option.map_some, Bool.not_true, dNext]
  have h2 : dSetO 2 (dC (.dic [] [])) [some (pD k1 l, .fz), some (pD k2 m, .fz), none, none, none, none, none] = some (.nx (mue k1 k2 l m [] none none none none)) := rfl
  obtain ⟨w, x, y, z, h3, hin⟩ := mul_outer (k1 := k1) (k2 := k2) H (r := l) (s := []) (w := none) (x := none) (y := none) (z := none) (fun _ h => h) ⟨by simp, fun k hk => by simp at hk⟩ (fit_nil _) (fit_prod H.fm H.fl) (by have := H.bc; omega)
  have h4 : dFor (.nm 3) (dIt (dFld 1 "terms" (dVar 0))) (dFor (.nm 4) (dIt (dFld 1 "terms" (dVar 1))) bMul) (mue k1 k2 l m [] none none none none) = some (.nx (mue k1 k2 l m (acc [] (prodL l m)) w x y z)) := by
    have q := f_terms (g := dVar 0) (env := mue k1 k2 l m [] none none none none) (kind := k1) (l := l) rfl
    simp only [dFor, dIt, q]
    exact h3
  have hlen := hin.len
  have hkz := H.kz
  have hp := fun kind => poly_of_eq (kind := kind) hin.nd (by omega)
  have qk := f_kind (g := dVar 0) (env := mue k1 k2 l m (acc [] (prodL l m)) w x y z) (kind := k1) (l := l) rfl
  have hf : frz 2 (mue k1 k2 l m (acc [] (prodL l m)) w x y z) = [some (pD k1 l, .fz), some (pD k2 m, .fz), some (.dic (dks (acc [] (prodL l m))) (dvs rD (acc [] (prodL l m))), .fz), w, x, y, z] := rfl
  have hv : dVar 2 [some (pD k1 l, .fz), some (pD k2 m, .fz), some (.dic (dks (acc [] (prodL l m))) (dvs rD (acc [] (prodL l m))), .fz), w, x, y, z] = some (.dic (dks (acc [] (prodL l m))) (dvs rD (acc [] (prodL l m)))) := rfl
  have qk2 := f_kind (g := dVar 1) (env := [some (pD k1 l, .fz), some (pD k2 m, .fz), some (.dic (dks (acc [] (prodL l m))) (dvs rD (acc [] (prodL l m))), .fz), w, x, y, z]) (kind := k2) (l := m) rfl
  have hb2 : (dSeq (dSet 5 (dTup (dCons (dMap gTuple (dSorted (dBin gAdd (dBin gIx (dVar 3) (dC (.int 0))) (dBin gIx (dVar 4) (dC (.int 0)))))) (dCons (dBin gAdd (dBin gIx (dVar 3) (dC (.int 1))) (dBin gIx (dVar 4) (dC (.int 1)))) dNil)))) (dSeq (dSet 6 (dBin (gOwn 0 m_Ratio___mul__) (dDGet (dFld 1 "coefficients" (dVar 0)) (dVar 3)) (dDGet (dFld 1 "coefficients" (dVar 1)) (dVar 4)))) (dDPut 2 (dVar 5) (dIfE (dB (dDIn false (dVar 5) (dPk 2))) (dBin (gOwn 0 m_Ratio___add__) (dDGet (dPk 2) (dVar 5)) (dVar 6)) (dVar 6))))) = bMul := rfl
  have hc : dB (dBin (gEqA false) (dFld 1 "kind" (dVar 0)) (dC (.str "number"))) (mue k1 k2 l m (acc [] (prodL l m)) w x y z) = some (decide (k1 = Str.ofString "number")) := by
    simp only [dB, dBin, dC, qk, gEqA_str, Bool.false_xor]
  have hr1 : dFrz 2 (dRet (dCall 2 m_poly_of [] (dCons (dFld 1 "kind" (dVar 1)) (dCons (dVar 2) dNil)))) (mue k1 k2 l m (acc [] (prodL l m)) w x y z) = some (.rt (pD k2 (mulL l m))) := by
    simp only [dFrz, hf, dRet, dCall, dCons, qk2, hv, dNil, List.append_nil, List.length_cons, List.length_nil, Nat.zero_add, Nat.reduceAdd, if_true, hp, Option.map_some]
    rfl
  have hr2 : dFrz 2 (dRet (dCall 2 m_poly_of [] (dCons (dC (.str "matrix")) (dCons (dVar 2) dNil)))) (mue k1 k2 l m (acc [] (prodL l m)) w x y z) = some (.rt (pD "matrix" (mulL l m))) := by
    simp only [dFrz, hf, dRet, dCall, dCons, dC, hv, dNil, List.append_nil, List.length_cons, List.length_nil, Nat.zero_add, Nat.reduceAdd, if_true, hp, Option.map_some]
    rfl
  unfold m_Poly___mul__ runD d_Poly___mul__
  rw [e0, hb2]
  have h6 : dIf (dB (dBin (gEqA false) (dFld 1 "kind" (dVar 0)) (dC (.str "number")))) (dFrz 2 (dRet (dCall 2 m_poly_of [] (dCons (dFld 1 "kind" (dVar 1)) (dCons (dVar 2) dNil))))) dNext (mue k1 k2 l m (acc [] (prodL l m)) w x y z) = if k1 = Str.ofString "number" then some (.rt (pD k2 (mulL l m))) else some (.nx (mue k1 k2 l m (acc [] (prodL l m)) w x y z)) := by
    rw [dIf, hc]
    by_cases hn : k1 = Str.ofString "number"
    · simp only [hn, decide_true, if_true] at hr1 ⊢
      exact hr1
    · simp only [hn, decide_false, if_false]
      rfl
  simp only [dSeq, h1, h2, h4, h6]
  by_cases hn : k1 = Str.ofString "number"
  · simp only [if_pos hn]
  · simp only [if_neg hn, hr2]
end Pd73

/-! k73, mathematics: linear functionals of polynomials; keys of one letter. -/
namespace Pd73
open PySem PySem.Spec PyProof.Rows L2 Pd

/-- the functional that is g at the keys -/
def S (g : KY → Rat) : PL → Rat
  | [] => 0
  | e :: l => e.2 * g e.1 + S g l
theorem S_append (g : KY → Rat) (l m : PL) : S g (l ++ m) = S g l + S g m := by
  induction l with
  | nil => simp only [List.nil_append, S]; grind
  | cons e l ih => simp only [List.cons_append, S, ih]; grind
theorem S_perm {g : KY → Rat} {l m : PL} (p : l.Perm m) : S g l = S g m := by
  induction p with
  | nil => rfl
  | cons x _ ih => simp only [S, ih]
  | swap x y l => simp only [S]; grind
  | trans _ _ h1 h2 => rw [h1, h2]
theorem S_add (g h : KY → Rat) (l : PL) : S (fun k => g k + h k) l = S g l + S h l := by
  induction l with
  | nil => simp only [S]; grind
  | cons e l ih => simp only [S, ih]; grind
theorem S_smul (c : Rat) (g : KY → Rat) (l : PL) : S (fun k => c * g k) l = c * S g l := by
  induction l with
  | nil => simp only [S]; grind
  | cons e l ih => simp only [S, ih]; grind
theorem S_zero (l : PL) : S (fun _ => 0) l = 0 := by
  induction l with
  | nil => rfl
  | cons e l ih => simp only [S, ih]; grind
theorem S_congr {g h : KY → Rat} {l : PL} (e : ∀ x ∈ l, g x.1 = h x.1) : S g l = S h l := by
  induction l with
  | nil => rfl
  | cons x l ih => simp only [S, e x List.mem_cons_self, ih fun y hy => e y (List.mem_cons_of_mem _ hy)]
theorem S_put (g : KY → Rat) (k : KY) (v : Rat) : ∀ l : PL, (l.map (·.1)).Nodup → S g (put k v l) = S g l + (v - (look k l).getD 0) * g k
  | [], _ => by simp only [put, S, look, Option.getD_none]; grind
  | e :: l, n => by
    rw [List.map_cons, List.nodup_cons] at n
    unfold put look
    by_cases h : e.1 = k
    · rw [if_pos h, if_pos h]; simp only [S, Option.getD_some, h]; grind
    · rw [if_neg h, if_neg h]; simp only [S, S_put g k v l n.2]; grind
theorem S_acc1 (g : KY → Rat) {l : PL} {e : KY × Rat} (n : (l.map (·.1)).Nodup) : S g (acc1 l e) = S g l + e.2 * g e.1 := by
  unfold acc1
  rw [S_put g _ _ l n]
  cases look e.1 l with
  | none => simp only [Option.getD_none]; grind
  | some s => simp only [Option.getD_some]; grind
theorem S_acc (g : KY → Rat) (m : PL) : ∀ {l : PL}, (l.map (·.1)).Nodup → S g (acc l m) = S g l + S g m := by
  induction m with
  | nil => intro l _; show S g l = S g l + 0; grind
  | cons e m ih =>
    intro l n
    show S g (acc (acc1 l e) m) = _
    rw [ih (acc1_nodup n), S_acc1 g n]
    simp only [S]
    grind
theorem S_filter (g : KY → Rat) (l : PL) : S g (l.filter fun e => decide (e.2 ≠ 0)) = S g l := by
  induction l with
  | nil => rfl
  | cons e l ih =>
    rw [List.filter_cons]
    by_cases h : e.2 = 0
    · simp only [h, ne_eq, not_true, decide_false, S, ih]; simp; grind
    · simp only [h, ne_eq, not_false_eq_true, decide_true, if_true, S, ih]
theorem S_canon (g : KY → Rat) {l : PL} (n : (l.map (·.1)).Nodup) : S g (canon l) = S g l := by
  rw [S_perm (canon_perm n), S_filter]
theorem S_sum (g : KY → Rat) {l m : PL} (n : (l.map (·.1)).Nodup) : S g (sumL l m) = S g l + S g m := by
  unfold sumL
  rw [S_canon g (acc_nodup n), S_acc g m n]
theorem S_scl (g : KY → Rat) (q : Rat) (l : PL) : S g (sclR q l) = q * S g l := by
  induction l with
  | nil => simp only [sclR, List.map_nil, S]; grind
  | cons e l ih =>
    show (q * e.2) * g e.1 + S g (sclR q l) = _
    rw [ih]
    simp only [S]
    grind
/-- the functional of a product's second factor -/
def pull (t : PL) (g : KY → Rat) : KY → Rat := fun b => S (fun a => g (jn a b)) t
theorem S_row (g : KY → Rat) (a : KY × Rat) (m : PL) : S g (m.map fun b => (jn a.1 b.1, a.2 * b.2)) = a.2 * S (fun b => g (jn a.1 b)) m := by
  induction m with
  | nil => simp only [List.map_nil, S]; grind
  | cons e m ih => simp only [List.map_cons, S, ih]; grind
theorem S_prod (g : KY → Rat) (l m : PL) : S g (prodL l m) = S (pull l g) m := by
  induction l with
  | nil =>
    show 0 = S (fun b => S (fun a => g (jn a b)) []) m
    exact (S_zero m).symm
  | cons a l ih =>
    show S g ((m.map fun b => (jn a.1 b.1, a.2 * b.2)) ++ prodL l m) = _
    rw [S_append, ih, S_row]
    have e : pull (a :: l) g = fun b => a.2 * g (jn a.1 b) + pull l g b := rfl
    rw [e, S_add (fun b => a.2 * g (jn a.1 b)) (pull l g), S_smul]
theorem S_mul (g : KY → Rat) (l m : PL) : S g (mulL l m) = S (pull l g) m := by
  unfold mulL
  rw [S_canon g (acc_nodup (by simp)), S_acc g _ (by simp), S_prod]
  simp only [S]
  grind
theorem cf_S (l : PL) (k : KY) : cf l k = S (fun j => if j = k then 1 else 0) l := by
  induction l with
  | nil => rfl
  | cons e l ih =>
    simp only [cf, S, ih]
    split <;> grind
theorem Can.extS {l m : PL} (h : Can l) (g : Can m) (e : ∀ γ, S γ l = S γ m) : l = m := h.ext g fun k => by rw [cf_S, cf_S, e]
/-- equal for all functionals -/
theorem pull_congr {l m : PL} (e : ∀ γ, S γ l = S γ m) (g : KY → Rat) : pull l g = pull m g := funext fun b => e _

/-! ### keys of one letter -/
theorem strLe_xs (c : Nat) : ∀ m n : Nat, strLe (xs c m) (xs c n) = decide (m ≤ n) := by
  have key : ∀ m n : Nat, m < n → strLe (xs c n) (xs c m) = false := by
    intro m n h
    by_cases q : strLe (xs c n) (xs c m) = true
    · have lt : PySem.W.dataLt (.str (xs c m)) (.str (xs c n)) = true := by
        show lexLt itemOrd [.inr (xs c m).cps.toList] [.inr (xs c n).cps.toList] = true
        rw [lex_true]
        left
        show strKind.blt (xs c m).cps.toList (xs c n).cps.toList = true
        have e : ∀ k, (xs c k).cps.toList = List.replicate k c := fun k => by simp [xs, tx]
        rw [e, e]
        clear q
        show decide (List.replicate m c < List.replicate n c) = true
        refine decide_eq_true ?_
        obtain ⟨j, rfl⟩ : ∃ j, n = m + (j + 1) := ⟨n - m - 1, by omega⟩
        clear h
        induction m with
        | zero => rw [Nat.zero_add, List.replicate_succ]; exact List.nil_lt_cons _ _
        | succ m ih =>
          rw [Nat.succ_add, List.replicate_succ, List.replicate_succ]
          exact List.cons_lt_cons_self.mpr ih
      unfold strLe at q
      rw [lt] at q
      cases q
    · simpa using q
  intro m n
  rcases Nat.lt_or_ge n m with h | h
  · rw [key n m h]; simp; omega
  · rcases Nat.lt_or_eq_of_le h with z | z
    · rcases strLe_total.total (xs c m) (xs c n) with w | w
      · rw [w]; simp [h]
      · rw [key m n z] at w; cases w
    · subst z
      rcases strLe_total.total (xs c m) (xs c m) with w | w <;> simp [w]
def nle : Nat → Nat → Bool := fun a b => decide (a ≤ b)
theorem sort_xs (c : Nat) (ns : List Nat) : (ns.map (xs c)).mergeSort strLe = (ns.mergeSort nle).map (xs c) :=
  (List.map_mergeSort fun a _ b _ => (strLe_xs c a b).symm).symm
/-- t_n1 t_n2 .. x^w -/
def uk (c : Nat) (ns : List Nat) (w : Nat) : KY := (ns.map (xs c), xs c w)
theorem jn_uk (c : Nat) (a b : List Nat) (w v : Nat) : jn (uk c a w) (uk c b v) = uk c ((a ++ b).mergeSort nle) (w + v) := by
  unfold jn uk
  simp only
  rw [← List.map_append, sort_xs, xs_app]
theorem lrots (c : Nat) (ns : List Nat) : (ns.map (xs c)).map lrot = ns.map (xs c) := by
  rw [List.map_map]
  refine List.map_congr_left fun n _ => lrot_xs c n
theorem tk_uk (c : Nat) (ns : List Nat) (w : Nat) : tk (ns.map (xs c)) (xs c w) = uk c (ns.mergeSort nle) w := by
  unfold tk uk
  rw [lrots, sort_xs]
theorem nle_total : PySem.W.TotalLe nle := ⟨fun a b c h1 h2 => by simp only [nle, decide_eq_true_eq] at *; omega, fun a b => by simp only [nle, decide_eq_true_eq]; omega⟩
theorem sort_perm' {a b : List Nat} (p : a.Perm b) : a.mergeSort nle = b.mergeSort nle := by
  have q : (a.mergeSort nle).Perm (b.mergeSort nle) := ((List.mergeSort_perm a nle).trans p).trans (List.mergeSort_perm b nle).symm
  have tot : ∀ x y : Nat, (nle x y || nle y x) = true := fun x y => by
    simp only [nle, Bool.or_eq_true, decide_eq_true_eq]; omega
  have s : ∀ l : List Nat, (l.mergeSort nle).Pairwise fun x y => nle x y = true := fun l => List.pairwise_mergeSort (fun x y z => nle_total.trans x y z) tot l
  refine List.Perm.eq_of_pairwise (fun x y _ _ h1 h2 => ?_) (s a) (s b) q
  simp only [nle, decide_eq_true_eq] at h1 h2
  omega
theorem sort_sorted {a : List Nat} : (a.mergeSort nle).mergeSort nle = a.mergeSort nle := sort_perm' (List.mergeSort_perm a nle)
theorem sort_app_r (a b : List Nat) : (a ++ b.mergeSort nle).mergeSort nle = (a ++ b).mergeSort nle := sort_perm' ((List.Perm.refl a).append (List.mergeSort_perm b nle))
/-- sorted -/
def srt (a : List Nat) : Prop := a.mergeSort nle = a
theorem srt_sort (a : List Nat) : srt (a.mergeSort nle) := sort_sorted
end Pd73

/-! k73, mathematics: homogeneous polynomials of one letter, short ones; operations on them. -/
namespace Pd73
open PySem PySem.Spec PyProof.Rows L2 Pd

/-- l: homogeneous of degree d in t_1 .. t_n and x^w, w ≤ v -/
def Hom (c n v d : Nat) (l : PL) : Prop := ∀ e ∈ l, ∃ ns w, e.1 = uk c ns w ∧ srt ns ∧ (∀ x ∈ ns, 1 ≤ x ∧ x ≤ n) ∧ w ≤ v ∧ ns.sum + w = d
def rep3 (a b e : Nat) : List Nat := List.replicate a 1 ++ (List.replicate b 2 ++ List.replicate e 3)
def KS (c d : Nat) : List KY := (List.range 3).flatMap fun w => (List.range 11).flatMap fun b => (List.range 7).map fun e => uk c ((rep3 (d - w - 2 * b - 3 * e) b e).mergeSort nle) w
theorem KS_len (c d : Nat) : (KS c d).length = 231 := by simp [KS, List.length_flatMap, List.map_const']
theorem rep_perm {n : Nat} (hn : n ≤ 3) : ∀ {ns : List Nat}, (∀ x ∈ ns, 1 ≤ x ∧ x ≤ n) → ∃ a b e, ns.Perm (rep3 a b e) ∧ ns.sum = a + 2 * b + 3 * e
  | [], _ => ⟨0, 0, 0, List.Perm.refl _, rfl⟩
  | x :: ns, h => by
    obtain ⟨a, b, e, p, s⟩ := rep_perm hn (ns := ns) fun y hy => h y (List.mem_cons_of_mem _ hy)
    have hx := h x List.mem_cons_self
    have : x = 1 ∨ x = 2 ∨ x = 3 := by omega
    rcases this with rfl | rfl | rfl
    · exact ⟨a + 1, b, e, p.cons 1, by rw [List.sum_cons, s]; omega⟩
    · refine ⟨a, b + 1, e, ?_, by rw [List.sum_cons, s]; omega⟩
      refine (p.cons 2).trans ?_
      unfold rep3
      rw [List.replicate_succ, List.cons_append]
      exact List.perm_middle.symm
    · refine ⟨a, b, e + 1, ?_, by rw [List.sum_cons, s]; omega⟩
      refine (p.cons 3).trans ?_
      unfold rep3
      rw [List.replicate_succ, ← List.append_assoc, ← List.append_assoc]
      exact List.perm_middle.symm
theorem mem_KS {c n v d w : Nat} {ns : List Nat} (hn : n ≤ 3) (hv : v ≤ 2) (hd : d ≤ 20) (h1 : srt ns) (h2 : ∀ x ∈ ns, 1 ≤ x ∧ x ≤ n) (h3 : w ≤ v) (h4 : ns.sum + w = d) : uk c ns w ∈ KS c d := by
  obtain ⟨a, b, e, p, s⟩ := rep_perm hn h2
  have e1 : ns = (rep3 a b e).mergeSort nle := by rw [← sort_perm' p]; exact h1.symm
  have ha : a = d - w - 2 * b - 3 * e := by omega
  unfold KS
  refine List.mem_flatMap.mpr ⟨w, List.mem_range.mpr (by omega), List.mem_flatMap.mpr ⟨b, List.mem_range.mpr (by omega), List.mem_map.mpr ⟨e, List.mem_range.mpr (by omega), ?_⟩⟩⟩
  rw [← ha, ← e1]
theorem Hom.keys {c n v d : Nat} {l : PL} (h : Hom c n v d l) (hn : n ≤ 3) (hv : v ≤ 2) (hd : d ≤ 20) : ∀ k ∈ l.map (·.1), k ∈ KS c d := by
  intro k hk
  obtain ⟨e, he, rfl⟩ := List.mem_map.mp hk
  obtain ⟨ns, w, e1, h1, h2, h3, h4⟩ := h e he
  rw [e1]
  exact mem_KS hn hv hd h1 h2 h3 h4
theorem ns_len {n : Nat} : ∀ {ns : List Nat}, (∀ x ∈ ns, 1 ≤ x ∧ x ≤ n) → ns.length ≤ ns.sum
  | [], _ => Nat.le_refl _
  | x :: ns, h => by
    have := ns_len (ns := ns) fun y hy => h y (List.mem_cons_of_mem _ hy)
    have := h x List.mem_cons_self
    rw [List.length_cons, List.sum_cons]
    omega

structure Good (c n v d m b : Nat) (l : PL) : Prop where
  can : Can l
  hom : Hom c n v d l
  fit : Fit m b l
  m0 : 0 < m
section
variable {c n v d d' m m' b b' : Nat} {l k : PL}
theorem Good.len (h : Good c n v d m b l) (hn : n ≤ 3) (hv : v ≤ 2) (hd : d ≤ 20) : l.length ≤ 231 := by
  have z : InK (KS c d) l := ⟨h.can.nd, h.hom.keys hn hv hd⟩
  have := z.len
  rwa [KS_len] at this
theorem Good.mono (h : Good c n v d m b l) (hb : b ≤ b') : Good c n v d m b' l := ⟨h.can, h.hom, h.fit.mono hb, h.m0⟩
theorem Good.up (j : Nat) (hj : 0 < j) (h : Good c n v d m b l) : Good c n v d (m * j) (b * j) l := ⟨h.can, h.hom, fit_up j h.fit, Nat.mul_pos h.m0 hj⟩
theorem Hom.widen {n' v' : Nat} (h : Hom c n v d l) (hn : n ≤ n') (hv : v ≤ v') : Hom c n' v' d l := fun e he => by
  obtain ⟨ns, w, e1, h1, h2, h3, h4⟩ := h e he
  exact ⟨ns, w, e1, h1, fun x hx => ⟨(h2 x hx).1, Nat.le_trans (h2 x hx).2 hn⟩, Nat.le_trans h3 hv, h4⟩
theorem hom_of_keys {s : PL} (h : Hom c n v d l) (hk : ∀ k ∈ s.map (·.1), k ∈ l.map (·.1)) : Hom c n v d s := fun e he => by
  obtain ⟨e', he', e1⟩ := List.mem_map.mp (hk e.1 (List.mem_map.mpr ⟨e, he, rfl⟩))
  obtain ⟨ns, w, e2, h1⟩ := h e' he'
  exact ⟨ns, w, by rw [← e1, e2], h1⟩
theorem hom_append {s : PL} (h : Hom c n v d l) (g : Hom c n v d s) : Hom c n v d (l ++ s) := fun e he => by
  rcases List.mem_append.mp he with z | z
  · exact h e z
  · exact g e z
theorem Good.sum (h : Good c n v d m b l) (g : Good c n v d m b' k) : Good c n v d m (b + b') (sumL l k) := by
  have nd := acc_nodup (m := k) h.can.nd
  refine ⟨canon_can nd, ?_, fit_canon nd (fit_acc h.fit g.fit), h.m0⟩
  refine hom_of_keys (hom_append h.hom g.hom) fun q hq => ?_
  rcases acc_keys q (canon_keys q hq) with z | z
  · rw [List.map_append]; exact List.mem_append_left _ z
  · rw [List.map_append]; exact List.mem_append_right _ z
theorem Good.add_eq {kind : Str} (h : Good c n v d m b l) (g : Good c n v d m b' k) (hn : n ≤ 3) (hv : v ≤ 2) (hd : d ≤ 20) (hm : m < 2 ^ 4000) (hb : b + b' < 2 ^ 4000) : m_Poly___add__ [pD kind l, pD kind k] = some (pD kind (sumL l k)) := by
  have h1 := h.len hn hv hd
  have h2 := g.len hn hv hd
  exact Poly_add h.can.nd g.can.nd h.m0 hm h.fit g.fit hb (by have : smallL = 100000 := rfl; omega)
theorem Good.scl {q : Rat} {e : Nat} (h : Good c n v d m b l) (hm' : 0 < m') (hq : In m' q) (hz : (zz m' q).natAbs ≤ e) : Good c n v d (m' * m) (e * b) (canon (sclR q l)) := by
  have nd : ((sclR q l).map (·.1)).Nodup := by rw [sclR_keys]; exact h.can.nd
  exact ⟨canon_can nd, hom_of_keys h.hom fun k hk => by rw [← sclR_keys q l]; exact canon_keys k hk, fit_canon nd (fit_scl hq hz h.fit), Nat.mul_pos hm' h.m0⟩
theorem Good.scl_eq {kind : Str} {q : Rat} (h : Good c n v d m b l) (hn : n ≤ 3) (hv : v ≤ 2) (hd : d ≤ 20) (hm : m < 2 ^ 4000) (hb : b < 2 ^ 4000) (hq : Ok q) : m_Poly_scaled [pD kind l, rD q] = some (pD kind (canon (sclR q l))) := by
  have h1 := h.len hn hv hd
  exact Poly_scaled h.can.nd (by have : smallL = 100000 := rfl; omega) hq (h.fit.ok h.m0 hm hb)
theorem Good.neg (h : Good c n v d m b l) : Good c n v d m b (canon (sclR (-1) l)) := by
  have := h.scl (m' := 1) (e := 1) (q := ((-1 : Int) : Rat)) (by decide) (In_int 1 (-1)).1 (by rw [(In_int 1 (-1)).2]; decide)
  rw [Nat.one_mul, Nat.one_mul] at this
  exact this
theorem Good.sub_eq {kind : Str} (h : Good c n v d m b l) (g : Good c n v d m b' k) (hn : n ≤ 3) (hv : v ≤ 2) (hd : d ≤ 20) (hm : m < 2 ^ 4000) (hb : b + b' < 2 ^ 4000) : m_Poly___sub__ [pD kind l, pD kind k] = some (pD kind (subL l k)) := by
  have h1 := h.len hn hv hd
  have h2 := g.len hn hv hd
  exact Poly_sub h.can.nd g.can.nd h.m0 hm h.fit g.fit hb (by have : smallL = 100000 := rfl; omega)
theorem Good.sub (h : Good c n v d m b l) (g : Good c n v d m b' k) : Good c n v d m (b + b') (subL l k) := h.sum g.neg
theorem sum_perm {a b : List Nat} (p : a.Perm b) : a.sum = b.sum := p.sum_nat
theorem uk_jn_hom {x y : KY} (hx : ∃ ns w, x = uk c ns w ∧ srt ns ∧ (∀ x ∈ ns, 1 ≤ x ∧ x ≤ n) ∧ w ≤ 0 ∧ ns.sum + w = d) (hy : ∃ ns w, y = uk c ns w ∧ srt ns ∧ (∀ x ∈ ns, 1 ≤ x ∧ x ≤ n) ∧ w ≤ v ∧ ns.sum + w = d') :
    ∃ ns w, jn x y = uk c ns w ∧ srt ns ∧ (∀ x ∈ ns, 1 ≤ x ∧ x ≤ n) ∧ w ≤ v ∧ ns.sum + w = d + d' := by
  obtain ⟨a, w, rfl, _, a2, a3, a4⟩ := hx
  obtain ⟨e, u, rfl, _, e2, e3, e4⟩ := hy
  have p := List.mergeSort_perm (a ++ e) nle
  refine ⟨(a ++ e).mergeSort nle, w + u, jn_uk c a e w u, srt_sort _, fun x hx => ?_, by omega, ?_⟩
  · rcases List.mem_append.mp (p.mem_iff.mp hx) with z | z
    · exact a2 x z
    · exact e2 x z
  · rw [sum_perm p, List.sum_append]; omega
theorem Good.mulOk (h : Good c n 0 d m b l) (g : Good c n v d' m' b' k) (hn : n ≤ 3) (hv : v ≤ 2) (hd : d + d' ≤ 20) (hm : m * m' < 2 ^ 4000) (hb : b < 2 ^ 4000) (hb' : b' < 2 ^ 4000) (hbb : b * b' < 2 ^ 4000) : MulOk l k (KS c (d + d')) m m' b b' := by
  refine ⟨h.can.nd, g.can.nd, h.m0, g.m0, hm, h.fit, g.fit, hb, hb', hbb, fun x hx y hy => ?_, fun x hx y hy => ?_, by rw [KS_len]; decide⟩
  · obtain ⟨a, w, e1, _, a2, a3, a4⟩ := h.hom x hx
    obtain ⟨e, u, e2, _, e3, e4, e5⟩ := g.hom y hy
    have l1 := ns_len a2
    have l2 := ns_len e3
    have hs : smallL = 100000 := rfl
    rw [e1, e2]
    refine ⟨?_, ?_⟩
    · simp only [uk, List.length_map]; omega
    · simp only [uk, xs_len]; omega
  · obtain ⟨ns, w, e1, h1, h2, h3, h4⟩ := uk_jn_hom (h.hom x hx) (g.hom y hy)
    rw [e1]
    exact mem_KS hn hv hd h1 h2 h3 h4
theorem Good.mul (h : Good c n 0 d m b l) (g : Good c n v d' m' b' k) : Good c n v (d + d') (m * m') (b * b') (mulL l k) := by
  have nd : ((acc [] (prodL l k)).map (·.1)).Nodup := acc_nodup (by simp)
  have hf : Fit (m * m') (b * b') (acc [] (prodL l k)) := by
    have := fit_acc (fit_nil (m * m')) (fit_prod g.fit h.fit)
    exact this.mono (by omega)
  refine ⟨canon_can nd, ?_, fit_canon nd hf, Nat.mul_pos h.m0 g.m0⟩
  have hp : Hom c n v (d + d') (prodL l k) := fun e he => by
    obtain ⟨x, hx, he2⟩ := List.mem_flatMap.mp he
    obtain ⟨y, hy, rfl⟩ := List.mem_map.mp he2
    exact uk_jn_hom (h.hom x hx) (g.hom y hy)
  refine hom_of_keys hp fun q hq => ?_
  rcases acc_keys q (canon_keys q hq) with z | z
  · simp at z
  · exact z
theorem Good.mul_eq {kind : Str} (h : Good c n 0 d m b l) (g : Good c n v d' m' b' k) (hn : n ≤ 3) (hv : v ≤ 2) (hd : d + d' ≤ 20) (hm : m * m' < 2 ^ 4000) (hb : b < 2 ^ 4000) (hb' : b' < 2 ^ 4000) (hbb : b * b' < 2 ^ 4000) :
    m_Poly___mul__ [pD "number" l, pD kind k] = some (pD kind (mulL l k)) := by
  have := Poly_mul (k1 := "number") (k2 := kind) (h.mulOk g hn hv hd hm hb hb' hbb) (.inl rfl)
  rw [if_pos rfl] at this
  exact this
end
end Pd73

/-! k73, mathematics: constants, traces of powers, powers of the letter, elementary. -/
namespace Pd73
open PySem PySem.Spec PyProof.Rows L2 Pd

theorem atI_neg {α : Type} {l : List α} {j : Nat} {v : α} (hj : j < l.length) (h : l[l.length - 1 - j]? = some v) : atI l (-1 - (j : Int)) = some v := by
  have e : ixN l.length (-1 - (j : Int)) = some (l.length - 1 - j) := by
    unfold ixN
    rw [if_neg (by omega), if_pos (by omega)]
    congr 1
    omega
  unfold atI
  rw [e]
  exact h
theorem dMake_of {n : Nat} {m : List D → Option D} {dd as : List D} {fr : DPs} {env : DEnv} (h : fr env = some as) (hl : (as ++ dd).length + 1 = n) : dMake n m dd fr env = m (as ++ dd) := by
  unfold dMake
  rw [h]
  simp only [hl, if_true]
theorem dCall_of {n : Nat} {m : List D → Option D} {dd as : List D} {fr : DPs} {env : DEnv} (h : fr env = some as) (hl : (as ++ dd).length = n) : dCall n m dd fr env = m (as ++ dd) := by
  unfold dCall
  rw [h]
  simp only [hl, if_true]
/-- one term -/
def mo (k : KY) : PL := [(k, 1)]
theorem can_mo (k : KY) : Can (mo k) := ⟨by simp [mo], by simp [mo], fun e he => by
  have : e = (k, 1) := by simpa [mo] using he
  rw [this]; show (1 : Rat) ≠ 0; decide⟩
theorem S_mo (g : KY → Rat) (k : KY) : S g (mo k) = g k := by
  show 1 * g k + 0 = g k
  grind
theorem acc_one (k : KY) (q : Rat) : acc [] [(k, q)] = [(k, q)] := rfl
theorem canon_one {k : KY} {q : Rat} (h : q ≠ 0) : canon [(k, q)] = [(k, q)] := by
  simp [canon, canK, look, h]
theorem fit_one {m : Nat} {k : KY} {q : Rat} {b : Nat} (hq : In m q) (hb : (zz m q).natAbs ≤ b) : Fit m b [(k, q)] := ⟨fun e he => by
  have : e = (k, q) := by simpa using he
  rw [this]; exact hq, by simp only [nr]; omega⟩
theorem in1 : In 1 1 ∧ zz 1 1 = 1 := by
  have := In_int 1 1
  exact this
theorem good_mo {c n v d w : Nat} {ns : List Nat} (h1 : srt ns) (h2 : ∀ x ∈ ns, 1 ≤ x ∧ x ≤ n) (h3 : w ≤ v) (h4 : ns.sum + w = d) : Good c n v d 1 1 (mo (uk c ns w)) :=
  ⟨can_mo _, fun e he => by
    have : e = (uk c ns w, 1) := by simpa [mo] using he
    exact ⟨ns, w, by rw [this], h1, h2, h3, h4⟩, fit_one in1.1 (by rw [in1.2]; decide), by decide⟩
theorem srt_nil : srt [] := by simp [srt]
theorem srt_one (i : Nat) : srt [i] := by simp [srt]
def con1 (c : Nat) : PL := mo (uk c [] 0)
def trp (c i : Nat) : PL := mo (uk c [i] 0)
def lpp (c i : Nat) : PL := mo (uk c [] i)
theorem good_con (c n v : Nat) : Good c n v 0 1 1 (con1 c) := good_mo srt_nil (fun x h => by cases h) (Nat.zero_le _) rfl
theorem good_tr (c : Nat) {n v i : Nat} (h1 : 1 ≤ i) (h2 : i ≤ n) : Good c n v i 1 1 (trp c i) := good_mo (srt_one i) (fun x hx => by
  have : x = i := by simpa using hx
  omega) (Nat.zero_le _) (by simp)
theorem good_lp (c : Nat) {n v i : Nat} (h : i ≤ v) : Good c n v i 1 1 (lpp c i) := good_mo srt_nil (fun x h => by cases h) h (by simp)
theorem xs0 (c : Nat) : xs c 0 = tx [] := rfl
theorem tk_nil (w : Str) : tk [] w = ([], w) := by simp [tk]
theorem uk0 (c w : Nat) : uk c [] w = ([], xs c w) := rfl
/-- Poly(kind, [(cycles, word, Ratio(1))]) -/
theorem Poly_one {kind : Str} {b : Bool} {cs : List Str} {w : Str} (h : ItOk kind ((b, cs), w, (1 : Rat))) : m_Poly___init__ [.str kind, .lst [.tup [cyD b cs, .str w, rD 1]]] = some (pD kind (mo (tk cs w))) := by
  have := Poly_init (kind := kind) (ts := [((b, cs), w, (1 : Rat))]) (m := 1) (c := 1) (by decide) (by decide) (fun t ht => by
    have : t = ((b, cs), w, (1 : Rat)) := by simpa using ht
    rw [this]; exact h) (fit_one in1.1 (by rw [in1.2]; decide)) (by decide) (by show 1 ≤ 100000; decide)
  have e : canon (acc [] ([((b, cs), w, (1 : Rat))].map itK)) = mo (tk cs w) := canon_one (by show (1 : Rat) ≠ 0; decide)
  rw [e] at this
  exact this
theorem Poly_constant1 (kind : Str) (c : Nat) : m_Poly_constant [.str kind, rD 1] = some (pD kind (con1 c)) := by
  have h := Poly_one (kind := kind) (b := false) (cs := []) (w := Str.ofString "") ⟨fun _ => rfl, (fun s hs => by cases hs), Nat.zero_le _⟩
  have e : tk [] (Str.ofString "") = uk c [] 0 := by rw [tk_nil]; rfl
  rw [e] at h
  have e0 : env0 2 [D.str kind, rD 1] = [some (.str kind, .fz), some (rD 1, .fz)] := rfl
  unfold m_Poly_constant runD d_Poly_constant
  rw [e0]
  have hm : dMake 3 m_Poly___init__ [] (dCons (dVar 0) (dCons (dLst (dCons (dTup (dCons (dLst dNil) (dCons (dC (.str "")) (dCons (dVar 1) dNil)))) dNil)) dNil)) [some (.str kind, .fz), some (rD 1, .fz)] = some (pD kind (con1 c)) := h
  simp only [dRet, hm, Option.map_some]
theorem gMul_xs {c i : Nat} {n : Int} (h1 : 0 ≤ n) (h2 : i * n.toNat ≤ 1000) (hi : 0 < i) : gMul (.str (xs c i)) (.int n) = some (.str (xs c (i * n.toNat))) := by
  have hs : smallL = 100000 := rfl
  have : n.toNat ≤ i * n.toNat := Nat.le_mul_of_pos_left _ hi
  simp only [gMul, xs_len]
  rw [if_pos ⟨by omega, by omega⟩, rep_xs]
theorem power_trace_eq {c i : Nat} (h : i ≤ 1000) : m_power_trace [.str (xs c 1), .int i] = some (pD "number" (trp c i)) := by
  have hs : smallL = 100000 := rfl
  have h1 := Poly_one (kind := "number") (b := true) (cs := [xs c i]) (w := Str.ofString "") ⟨fun _ => rfl, (fun s hs => by
    have : s = xs c i := by simpa using hs
    rw [this, xs_len]; omega), by simp; omega⟩
  have e : tk [xs c i] (Str.ofString "") = uk c [i] 0 := by
    have := tk_uk c [i] 0
    rw [show (([i] : List Nat).mergeSort nle) = [i] from srt_one i] at this
    exact this
  rw [e] at h1
  have e0 : env0 2 [D.str (xs c 1), .int i] = [some (.str (xs c 1), .fz), some (.int i, .fz)] := rfl
  have hg : gMul (.str (xs c 1)) (.int i) = some (.str (xs c i)) := by
    have := gMul_xs (c := c) (i := 1) (n := (i : Int)) (by omega) (by simp; omega) (by decide)
    simpa using this
  have hb : dBin gMul (dVar 0) (dVar 1) [some (.str (xs c 1), .fz), some (.int i, .fz)] = some (.str (xs c i)) := hg
  have hr := dMk1 (h := dC (.int 1)) (env := [some (.str (xs c 1), .fz), some (.int i, .fz)]) (i := 1) rfl
  have h11 : ((1 : Int) : Rat) = 1 := rfl
  rw [h11] at hr
  unfold m_power_trace runD d_power_trace
  rw [e0]
  have hm : dMake 3 m_Poly___init__ [] (dCons (dC (.str "number")) (dCons (dLst (dCons (dTup (dCons (dTup (dCons (dBin gMul (dVar 0) (dVar 1)) dNil)) (dCons (dC (.str "")) (dCons (dMake 3 m_Ratio___init___1 [.int 1] (dCons (dC (.int 1)) dNil)) dNil)))) dNil)) dNil)) [some (.str (xs c 1), .fz), some (.int i, .fz)] = some (pD "number" (trp c i)) := by
    have ha : dCons (dC (.str "number")) (dCons (dLst (dCons (dTup (dCons (dTup (dCons (dBin gMul (dVar 0) (dVar 1)) dNil)) (dCons (dC (.str "")) (dCons (dMake 3 m_Ratio___init___1 [.int 1] (dCons (dC (.int 1)) dNil)) dNil)))) dNil)) dNil) [some (.str (xs c 1), .fz), some (.int i, .fz)] = some [.str "number", .lst [.tup [cyD true [xs c i], .str (Str.ofString ""), rD 1]]] := by
      unfold dCons
      simp only [dTup, dLst, dCons, dC, dNil, hb, hr]
      rfl
    exact (dMake_of (n := 3) (m := m_Poly___init__) (dd := []) ha rfl).trans h1
  simp only [dRet, hm, Option.map_some]
theorem mat_ne : ¬ (Str.ofString "matrix" = Str.ofString "number") := by decide
theorem letter_power_eq {c i : Nat} (h : i ≤ 1000) : m_letter_power [.str (xs c 1), .int i] = some (pD "matrix" (lpp c i)) := by
  have h1 := Poly_one (kind := "matrix") (b := true) (cs := []) (w := xs c i) ⟨(fun z => absurd z mat_ne), (fun s hs => by cases hs), Nat.zero_le _⟩
  rw [tk_nil] at h1
  have e0 : env0 2 [D.str (xs c 1), .int i] = [some (.str (xs c 1), .fz), some (.int i, .fz)] := rfl
  have hg : gMul (.str (xs c 1)) (.int i) = some (.str (xs c i)) := by
    have := gMul_xs (c := c) (i := 1) (n := (i : Int)) (by omega) (by simp; omega) (by decide)
    simpa using this
  have hb : dBin gMul (dVar 0) (dVar 1) [some (.str (xs c 1), .fz), some (.int i, .fz)] = some (.str (xs c i)) := hg
  have hr := dMk1 (h := dC (.int 1)) (env := [some (.str (xs c 1), .fz), some (.int i, .fz)]) (i := 1) rfl
  have h11 : ((1 : Int) : Rat) = 1 := rfl
  rw [h11] at hr
  unfold m_letter_power runD d_letter_power
  rw [e0]
  have hm : dMake 3 m_Poly___init__ [] (dCons (dC (.str "matrix")) (dCons (dLst (dCons (dTup (dCons (dTup dNil) (dCons (dBin gMul (dVar 0) (dVar 1)) (dCons (dMake 3 m_Ratio___init___1 [.int 1] (dCons (dC (.int 1)) dNil)) dNil)))) dNil)) dNil)) [some (.str (xs c 1), .fz), some (.int i, .fz)] = some (pD "matrix" (lpp c i)) := by
    have ha : dCons (dC (.str "matrix")) (dCons (dLst (dCons (dTup (dCons (dTup dNil) (dCons (dBin gMul (dVar 0) (dVar 1)) (dCons (dMake 3 m_Ratio___init___1 [.int 1] (dCons (dC (.int 1)) dNil)) dNil)))) dNil)) dNil) [some (.str (xs c 1), .fz), some (.int i, .fz)] = some [.str "matrix", .lst [.tup [cyD true [], .str (xs c i), rD 1]]] := by
      unfold dCons
      simp only [dTup, dLst, dCons, dC, dNil, hb, hr]
      rfl
    exact (dMake_of (n := 3) (m := m_Poly___init__) (dd := []) ha rfl).trans h1
  simp only [dRet, hm, Option.map_some]
end Pd73

/-! k73, mathematics: elementary. -/
namespace Pd73
open PySem PySem.Spec PyProof.Rows L2 Pd

/-- a loop over one name, P what holds before the turn a -/
theorem forL_ix {i : Nat} {body : DS} {P : Nat → DEnv → Prop} {l : List D} : ∀ {k : Nat} {env : DEnv}, (∀ a e d, l[a]? = some d → P a e → ∃ e2, body (e.set i (some (d, .fz))) = some (.nx e2) ∧ P (a + 1) e2) → P k env → k ≤ l.length → ∃ e2, forL (.nm i) body (l.drop k) env = some (.nx e2) ∧ P l.length e2 := by
  intro k env h h0 hk
  obtain ⟨j, hj⟩ : ∃ j, j = l.length - k := ⟨_, rfl⟩
  induction j generalizing k env with
  | zero =>
    have : k = l.length := by omega
    subst this
    exact ⟨env, by rw [List.drop_length]; rfl, h0⟩
  | succ j ih =>
    have hlt : k < l.length := by omega
    obtain ⟨e2, h1, h2⟩ := h k env l[k] (List.getElem?_eq_getElem hlt) h0
    obtain ⟨e3, h3, h4⟩ := ih (k := k + 1) (env := e2) h2 (by omega) (by omega)
    refine ⟨e3, ?_, h4⟩
    rw [List.drop_eq_getElem_cons hlt, forL]
    simp only [tgtE, h1, h3]
theorem forL_all {i : Nat} {body : DS} {P : Nat → DEnv → Prop} {l : List D} {env : DEnv} (h : ∀ a e d, l[a]? = some d → P a e → ∃ e2, body (e.set i (some (d, .fz))) = some (.nx e2) ∧ P (a + 1) e2) (h0 : P 0 env) : ∃ e2, forL (.nm i) body l env = some (.nx e2) ∧ P l.length e2 := by
  have := forL_ix (k := 0) h h0 (Nat.zero_le _)
  simpa using this
theorem pow_lt (a k : Nat) (h : k ≤ 60) (ha : a ≤ 60) : a ^ k < 2 ^ 4000 := by
  calc a ^ k ≤ 60 ^ k := Nat.pow_le_pow_left ha k
    _ ≤ 60 ^ 60 := Nat.pow_le_pow_right (by decide) h
    _ < 2 ^ 4000 := by decide +kernel
section
variable (c : Nat)
def totS (E : List PL) (j : Nat) : Nat → PL
  | 0 => []
  | a + 1 => if (a + 1) % 2 = 1 then sumL (totS E j a) (mulL (E.getD (j - (a + 1)) []) (trp c (a + 1))) else subL (totS E j a) (mulL (E.getD (j - (a + 1)) []) (trp c (a + 1)))
def els : Nat → List PL
  | 0 => [con1 c]
  | j + 1 => els j ++ [canon (sclR (mkRat 1 (j + 1)) (totS c (els j) (j + 1) (j + 1)))]
theorem els_len : ∀ j, (els c j).length = j + 1
  | 0 => rfl
  | j + 1 => by rw [els, List.length_append, els_len j]; rfl
def ele (j : Nat) : PL := (els c j).getD j []
theorem els_get {i : Nat} : ∀ {j : Nat}, i ≤ j → (els c j).getD i [] = ele c i
  | 0, h => by have : i = 0 := by omega
               subst this; rfl
  | j + 1, h => by
    by_cases q : i = j + 1
    · subst q; rfl
    · have hl := els_len c j
      rw [els, List.getD_eq_getElem?_getD, List.getElem?_append_left (by omega), ← List.getD_eq_getElem?_getD]
      exact els_get (by omega)
end
section
variable {c n : Nat}
structure GoodE (c n j : Nat) (E : List PL) : Prop where
  len : E.length = j
  g : ∀ i, i < j → Good c n 0 i (6 ^ i) (18 ^ i) (E.getD i [])
theorem good_prt {j a : Nat} {E : List PL} (h : GoodE c n j E) (hn : n ≤ 3) (hj : j ≤ n) (ha : a < j) : Good c n 0 j (6 ^ (j - 1)) (18 ^ (j - 1)) (mulL (E.getD (j - (a + 1)) []) (trp c (a + 1))) := by
  have g1 := h.g (j - (a + 1)) (by omega)
  have g2 := g1.mul (good_tr c (n := n) (v := 0) (i := a + 1) (by omega) (by omega))
  rw [show j - (a + 1) + (a + 1) = j by omega, Nat.mul_one, Nat.mul_one] at g2
  have g3 := g2.up (6 ^ a) (Nat.pow_pos (by decide))
  rw [← Nat.pow_add, show j - (a + 1) + a = j - 1 by omega] at g3
  refine g3.mono ?_
  calc 18 ^ (j - (a + 1)) * 6 ^ a ≤ 18 ^ (j - (a + 1)) * 18 ^ a := Nat.mul_le_mul_left _ (Nat.pow_le_pow_left (by decide) _)
    _ = 18 ^ (j - 1) := by rw [← Nat.pow_add, show j - (a + 1) + a = j - 1 by omega]
theorem good_nil {d m v : Nat} (hm : 0 < m) : Good c n v d m 0 [] := ⟨Can.nil, (fun e h => by cases h), fit_nil m, hm⟩
theorem good_tot {j : Nat} {E : List PL} (h : GoodE c n j E) (hn : n ≤ 3) (hj : j ≤ n) : ∀ a, a ≤ j → Good c n 0 j (6 ^ (j - 1)) (a * 18 ^ (j - 1)) (totS c E j a)
  | 0, _ => by rw [Nat.zero_mul]; exact good_nil (Nat.pow_pos (by decide))
  | a + 1, ha => by
    have g1 := good_tot h hn hj a (by omega)
    have g2 := good_prt h hn hj (a := a) (by omega)
    unfold totS
    rw [Nat.succ_mul]
    split
    · exact g1.sum g2
    · exact g1.sub g2
theorem in_inv {j : Nat} (h1 : 1 ≤ j) (h2 : j ≤ 3) : In 6 (mkRat 1 j) ∧ (zz 6 (mkRat 1 j)).natAbs ≤ 6 ∧ Ok (mkRat 1 j) := by
  have : j = 1 ∨ j = 2 ∨ j = 3 := by omega
  rcases this with rfl | rfl | rfl
  · exact ⟨by unfold In; decide +kernel, by decide +kernel, ⟨by decide +kernel, by decide +kernel⟩⟩
  · exact ⟨by unfold In; decide +kernel, by decide +kernel, ⟨by decide +kernel, by decide +kernel⟩⟩
  · exact ⟨by unfold In; decide +kernel, by decide +kernel, ⟨by decide +kernel, by decide +kernel⟩⟩
theorem good_next {j : Nat} {E : List PL} (h : GoodE c n j E) (hn : n ≤ 3) (hj : j ≤ n) (h1 : 1 ≤ j) : Good c n 0 j (6 ^ j) (18 ^ j) (canon (sclR (mkRat 1 j) (totS c E j j))) := by
  obtain ⟨i1, i2, _⟩ := in_inv h1 (by omega)
  have g := (good_tot h hn hj j (Nat.le_refl _)).scl (by decide) i1 i2
  have e : 6 * 6 ^ (j - 1) = 6 ^ j := by rw [Nat.mul_comm, ← Nat.pow_succ, show (j - 1).succ = j by omega]
  rw [e] at g
  refine g.mono ?_
  have e2 : 18 ^ j = 18 * 18 ^ (j - 1) := by rw [Nat.mul_comm, ← Nat.pow_succ, show (j - 1).succ = j by omega]
  rw [e2, ← Nat.mul_assoc]
  exact Nat.mul_le_mul_right _ (by omega)
theorem goodE_els (hn : n ≤ 3) : ∀ {j : Nat}, j ≤ n → GoodE c n (j + 1) (els c j)
  | 0, _ => ⟨rfl, fun i hi => by
      have : i = 0 := by omega
      subst this
      exact good_con c n 0⟩
  | j + 1, hj => by
    have ih := goodE_els hn (j := j) (by omega)
    have hl := els_len c j
    refine ⟨els_len c (j + 1), fun i hi => ?_⟩
    by_cases q : i = j + 1
    · subst q
      have g := good_next ih hn hj (by omega)
      have e : (els c (j + 1)).getD (j + 1) [] = canon (sclR (mkRat 1 (j + 1)) (totS c (els c j) (j + 1) (j + 1))) := by
        rw [els, List.getD_eq_getElem?_getD, List.getElem?_append_right (by omega), hl]
        simp
      rw [e]
      exact g
    · have e : (els c (j + 1)).getD i [] = (els c j).getD i [] := by
        rw [els, List.getD_eq_getElem?_getD, List.getElem?_append_left (by omega), ← List.getD_eq_getElem?_getD]
      rw [e]
      exact ih.g i (by omega)
theorem good_ele (hn : n ≤ 3) {j : Nat} (hj : j ≤ n) : Good c n 0 j (6 ^ j) (18 ^ j) (ele c j) := (goodE_els hn hj).g j (by omega)

/-! ### the loops -/
def een (c : Nat) (dg : Int) (E : List PL) (j : Nat) (t : PL) (x y : Option (D × Fl)) : DEnv := [some (.int dg, .fz), some (.str (xs c 1), .fz), some (.lst (E.map (pD "number")), .ow), some (.int j, .fz), some (pD "number" t, .fz), x, y]
def bIn : DS := (dSeq (dSet 6 (dBin (gOwn 1 m_Poly___mul__) (dIxO 2 (dBin (gI fun i j => i - j) (dVar 3) (dVar 5))) (dCall 2 m_power_trace [] (dCons (dVar 1) (dCons (dVar 5) dNil))))) (dSet 4 (dIfE (dTruI (dBin (gI Builtin.bitAnd) (dVar 5) (dC (.int 1)))) (dBin (gOwn 1 m_Poly___add__) (dVar 4) (dVar 6)) (dBin (gOwn 1 m_Poly___sub__) (dVar 4) (dVar 6)))))
theorem bit1 (k : Nat) : (Builtin.bitAnd (k : Int) 1 != 0) = decide (k % 2 = 1) := by
  have e : Builtin.bitAnd (k : Int) 1 = ((k &&& 1 : Nat) : Int) := by
    unfold Builtin.bitAnd
    have h1 : decide ((0 : Int) ≤ (k : Int)) = true := decide_eq_true (by omega)
    have h2 : decide ((0 : Int) ≤ 1) = true := by decide
    rw [h1, h2]
    simp
  rw [e, Nat.and_one_is_mod]
  have : k % 2 = 0 ∨ k % 2 = 1 := by omega
  rcases this with h | h <;> simp [h]
theorem in_step {dg : Int} {j a : Nat} {E : List PL} {x y : Option (D × Fl)} (h : GoodE c n j E) (hn : n ≤ 3) (hj : j ≤ n) (ha : a < j) :
    ∃ y', bIn ((een c dg E j (totS c E j a) x y).set 5 (some (.int ((a + 1 : Nat) : Int), .fz))) = some (.nx (een c dg E j (totS c E j (a + 1)) (some (.int ((a + 1 : Nat) : Int), .fz)) y')) := by
  have e1 : (een c dg E j (totS c E j a) x y).set 5 (some (.int ((a + 1 : Nat) : Int), .fz)) = een c dg E j (totS c E j a) (some (.int ((a + 1 : Nat) : Int), .fz)) y := rfl
  rw [e1]
  refine ⟨some (pD "number" (mulL (E.getD (j - (a + 1)) []) (trp c (a + 1))), .fz), ?_⟩
  have hl := h.len
  have hix : dIxO 2 (dBin (gI fun i j => i - j) (dVar 3) (dVar 5)) (een c dg E j (totS c E j a) (some (.int ((a + 1 : Nat) : Int), .fz)) y) = some (pD "number" (E.getD (j - (a + 1)) [])) := by
    have hb : dBin (gI fun i j => i - j) (dVar 3) (dVar 5) (een c dg E j (totS c E j a) (some (.int ((a + 1 : Nat) : Int), .fz)) y) = some (.int ((j - (a + 1) : Nat) : Int)) := by
      show some (D.int ((j : Int) - ((a + 1 : Nat) : Int))) = _
      congr 2
      omega
    have hg : (E.map (pD "number"))[j - (a + 1)]? = some (pD "number" (E.getD (j - (a + 1)) [])) := by
      rw [List.getElem?_map, List.getElem?_eq_getElem (by omega), List.getD_eq_getElem?_getD, List.getElem?_eq_getElem (by omega)]
      rfl
    have := atI_nat hg
    unfold dIxO
    simp only [een, List.getElem?_cons_zero, List.getElem?_cons_succ] at hb ⊢
    rw [hb]
    exact this
  have hpt : dCall 2 m_power_trace [] (dCons (dVar 1) (dCons (dVar 5) dNil)) (een c dg E j (totS c E j a) (some (.int ((a + 1 : Nat) : Int), .fz)) y) = some (pD "number" (trp c (a + 1))) :=
    (dCall_of (n := 2) (m := m_power_trace) (dd := []) (as := [.str (xs c 1), .int ((a + 1 : Nat) : Int)]) rfl rfl).trans (power_trace_eq (c := c) (i := a + 1) (by omega))
  have g1 := h.g (j - (a + 1)) (by omega)
  have gt := good_tr c (n := n) (v := 0) (i := a + 1) (by omega) (by omega)
  have hmul := g1.mul_eq (kind := "number") gt hn (by decide) (by omega) (by rw [Nat.mul_one]; exact pow_lt _ _ (by omega) (by decide)) (pow_lt _ _ (by omega) (by decide)) (by decide) (by rw [Nat.mul_one]; exact pow_lt _ _ (by omega) (by decide))
  have gp := good_prt h hn hj ha
  have gt2 := good_tot h hn hj a (by omega)
  have hb : a * 18 ^ (j - 1) + 18 ^ (j - 1) < 2 ^ 4000 := by
    rw [← Nat.succ_mul]
    calc (a + 1) * 18 ^ (j - 1) ≤ 18 * 18 ^ (j - 1) := Nat.mul_le_mul_right _ (by omega)
      _ = 18 ^ (j - 1 + 1) := by rw [Nat.mul_comm, ← Nat.pow_succ]
      _ < 2 ^ 4000 := pow_lt _ _ (by omega) (by decide)
  have hm : 6 ^ (j - 1) < 2 ^ 4000 := pow_lt _ _ (by omega) (by decide)
  have hadd := gt2.add_eq (kind := "number") gp hn (by decide) (by omega) hm hb
  have hsub := gt2.sub_eq (kind := "number") gp hn (by decide) (by omega) hm hb
  have h6 : dSet 6 (dBin (gOwn 1 m_Poly___mul__) (dIxO 2 (dBin (gI fun i j => i - j) (dVar 3) (dVar 5))) (dCall 2 m_power_trace [] (dCons (dVar 1) (dCons (dVar 5) dNil)))) (een c dg E j (totS c E j a) (some (.int ((a + 1 : Nat) : Int), .fz)) y) = some (.nx (een c dg E j (totS c E j a) (some (.int ((a + 1 : Nat) : Int), .fz)) (some (pD "number" (mulL (E.getD (j - (a + 1)) []) (trp c (a + 1))), .fz)))) := by
    have : dBin (gOwn 1 m_Poly___mul__) (dIxO 2 (dBin (gI fun i j => i - j) (dVar 3) (dVar 5))) (dCall 2 m_power_trace [] (dCons (dVar 1) (dCons (dVar 5) dNil))) (een c dg E j (totS c E j a) (some (.int ((a + 1 : Nat) : Int), .fz)) y) = some (pD "number" (mulL (E.getD (j - (a + 1)) []) (trp c (a + 1)))) := by
      rw [dBin, hix]
      simp only [hpt, gOwn1, hmul]
    simp only [dSet, this, Option.map_some]
    rfl
  have ht : dTruI (dBin (gI Builtin.bitAnd) (dVar 5) (dC (.int 1))) (een c dg E j (totS c E j a) (some (.int ((a + 1 : Nat) : Int), .fz)) (some (pD "number" (mulL (E.getD (j - (a + 1)) []) (trp c (a + 1))), .fz))) = some (decide ((a + 1) % 2 = 1)) := by
    rw [← bit1]
    rfl
  have v4 : ∀ z, dVar 4 (een c dg E j (totS c E j a) (some (.int ((a + 1 : Nat) : Int), .fz)) z) = some (pD "number" (totS c E j a)) := fun _ => rfl
  have v6 : ∀ z, dVar 6 (een c dg E j (totS c E j a) (some (.int ((a + 1 : Nat) : Int), .fz)) (some (pD "number" z, .fz))) = some (pD "number" z) := fun _ => rfl
  have h4 : dIfE (dTruI (dBin (gI Builtin.bitAnd) (dVar 5) (dC (.int 1)))) (dBin (gOwn 1 m_Poly___add__) (dVar 4) (dVar 6)) (dBin (gOwn 1 m_Poly___sub__) (dVar 4) (dVar 6)) (een c dg E j (totS c E j a) (some (.int ((a + 1 : Nat) : Int), .fz)) (some (pD "number" (mulL (E.getD (j - (a + 1)) []) (trp c (a + 1))), .fz))) = some (pD "number" (totS c E j (a + 1))) := by
    have et : totS c E j (a + 1) = if (a + 1) % 2 = 1 then sumL (totS c E j a) (mulL (E.getD (j - (a + 1)) []) (trp c (a + 1))) else subL (totS c E j a) (mulL (E.getD (j - (a + 1)) []) (trp c (a + 1))) := rfl
    rw [et, dIfE, ht]
    by_cases q : (a + 1) % 2 = 1
    · simp only [q, decide_true, if_true, dBin, v4, v6, gOwn1, hadd]
    · simp only [q, decide_false, if_false, dBin, v4, v6, gOwn1, hsub]
  unfold bIn
  simp only [dSeq, h6]
  simp only [dSet, h4, Option.map_some]
  rfl
end
end Pd73

/-! k73, mathematics: elementary, to its end; what its functionals are. -/
namespace Pd73
open PySem PySem.Spec PyProof.Rows L2 Pd

theorem dSeq_nx {s t : DS} {env e : DEnv} (h : s env = some (.nx e)) : dSeq s t env = t e := by
  unfold dSeq
  rw [h]
theorem runD_rt {n : Nat} {s : DS} {ds : List D} {d : D} (h : s (env0 n ds) = some (.rt d)) : runD n s ds = some d := by
  unfold runD
  rw [h]
theorem dRet_of {f : DP} {env : DEnv} {d : D} (h : f env = some d) : dRet f env = some (.rt d) := by
  unfold dRet
  rw [h]
  rfl
theorem dSet_of {i : Nat} {f : DP} {env : DEnv} {d : D} (h : f env = some d) : dSet i f env = some (.nx (env.set i (some (d, .fz)))) := by
  unfold dSet
  rw [h]
  rfl
theorem dSetO_of {i : Nat} {f : DP} {env : DEnv} {d : D} (h : f env = some d) : dSetO i f env = some (.nx (env.set i (some (d, .ow)))) := by
  unfold dSetO
  rw [h]
  rfl
theorem dBin_of {g : D → D → Option D} {f h : DP} {env : DEnv} {x y : D} (h1 : f env = some x) (h2 : h env = some y) : dBin g f h env = g x y := by
  unfold dBin
  rw [h1, h2]
theorem dCons_of {f : DP} {r : DPs} {env : DEnv} {x : D} {l : List D} (h1 : f env = some x) (h2 : r env = some l) : dCons f r env = some (x :: l) := by
  unfold dCons
  rw [h1, h2]
theorem dIf_t {c : DT} {s t : DS} {env : DEnv} (h : c env = some true) : dIf c s t env = s env := by
  unfold dIf
  rw [h]
theorem dIf_f {c : DT} {s t : DS} {env : DEnv} (h : c env = some false) : dIf c s t env = t env := by
  unfold dIf
  rw [h]
theorem dFor_of {t : Tgt} {it : DPs} {b : DS} {env : DEnv} {l : List D} (h : it env = some l) : dFor t it b env = forL t b l env := by
  unfold dFor
  rw [h]
theorem dB_of {f : DP} {env : DEnv} {b : Bool} (h : f env = some (.bl b)) : dB f env = some b := by
  unfold dB
  rw [h]
section
variable {c n : Nat}
theorem range_get {j a : Nat} {d : D} (h : ((List.range j).map fun x => D.int ((x + 1 : Nat) : Int))[a]? = some d) : a < j ∧ d = .int ((a + 1 : Nat) : Int) := by
  rw [List.getElem?_map] at h
  obtain ⟨q, h1, h2⟩ := Option.map_eq_some_iff.mp h
  obtain ⟨h3, h4⟩ := List.getElem?_eq_some_iff.mp h1
  rw [List.getElem_range] at h4
  subst h4
  exact ⟨by simpa using h3, h2.symm⟩
theorem in_loop {dg : Int} {j : Nat} {E : List PL} {x y : Option (D × Fl)} (h : GoodE c n j E) (hn : n ≤ 3) (hj : j ≤ n) :
    ∃ x' y', dFor (.nm 5) (dRg2 (dCons (dC (.int 1)) (dCons (dBin gAdd (dVar 3) (dC (.int 1))) dNil))) bIn (een c dg E j [] x y) = some (.nx (een c dg E j (totS c E j j) x' y')) := by
  have hr : dRg2 (dCons (dC (.int 1)) (dCons (dBin gAdd (dVar 3) (dC (.int 1))) dNil)) (een c dg E j [] x y) = some ((List.range j).map fun x => D.int ((x + 1 : Nat) : Int)) := by
    have : dCons (dC (.int 1)) (dCons (dBin gAdd (dVar 3) (dC (.int 1))) dNil) (een c dg E j [] x y) = some [.int 1, .int ((j : Int) + 1)] := rfl
    unfold dRg2
    rw [this]
    simp only
    rw [if_pos ⟨by omega, by omega⟩, rangeD1]
  obtain ⟨e2, h1, x', y', h2⟩ := forL_all (i := 5) (body := bIn) (P := fun a e => ∃ x' y', e = een c dg E j (totS c E j a) x' y') (l := (List.range j).map fun x => D.int ((x + 1 : Nat) : Int)) (env := een c dg E j [] x y) (fun a e d hd ⟨x', y', he⟩ => by
    obtain ⟨ha, rfl⟩ := range_get hd
    subst he
    obtain ⟨y2, h⟩ := in_step (dg := dg) (x := x') (y := y') h hn hj ha
    exact ⟨_, h, _, _, rfl⟩) ⟨x, y, rfl⟩
  have hl : ((List.range j).map fun x => D.int ((x + 1 : Nat) : Int)).length = j := by simp
  rw [hl] at h2
  subst h2
  exact ⟨x', y', by rw [dFor, hr]; exact h1⟩
def eo (c : Nat) (dg : Int) (E : List PL) (s t x y : Option (D × Fl)) : DEnv := [some (.int dg, .fz), some (.str (xs c 1), .fz), some (.lst (E.map (pD "number")), .ow), s, t, x, y]
def bOut : DS := (dSeq (dSet 4 (dMake 3 m_Poly___init__ [] (dCons (dC (.str "number")) (dCons (dLst dNil) dNil)))) (dSeq (dFor (.nm 5) (dRg2 (dCons (dC (.int 1)) (dCons (dBin gAdd (dVar 3) (dC (.int 1))) dNil))) bIn) (dApp 2 (dMeth 1 "scaled" 2 m_Poly_scaled [] (dVar 4) (dCons (dMake 3 m_Ratio___init___2 [] (dCons (dC (.int 1)) (dCons (dVar 3) dNil))) dNil)))))
theorem out_step {dg : Int} {a : Nat} {s t x y : Option (D × Fl)} (hn : n ≤ 3) (ha : a < n) :
    ∃ s' t' x' y', bOut ((eo c dg (els c a) s t x y).set 3 (some (.int ((a + 1 : Nat) : Int), .fz))) = some (.nx (eo c dg (els c (a + 1)) s' t' x' y')) := by
  have h := goodE_els (c := c) hn (j := a) (by omega)
  obtain ⟨x1, y1, h2⟩ := in_loop (dg := dg) (x := x) (y := y) h hn (by omega)
  have h1 : dSet 4 (dMake 3 m_Poly___init__ [] (dCons (dC (.str "number")) (dCons (dLst dNil) dNil))) ((eo c dg (els c a) s t x y).set 3 (some (.int ((a + 1 : Nat) : Int), .fz))) = some (.nx (een c dg (els c a) (a + 1) [] x y)) := by
    have : dMake 3 m_Poly___init__ [] (dCons (dC (.str "number")) (dCons (dLst dNil) dNil)) ((eo c dg (els c a) s t x y).set 3 (some (.int ((a + 1 : Nat) : Int), .fz))) = some (pD "number" []) :=
      (dMake_of (n := 3) (m := m_Poly___init__) (dd := []) (as := [.str "number", .lst []]) rfl rfl).trans (Poly_init0 "number")
    simp only [dSet, this, Option.map_some]
    rfl
  have hl := els_len c a
  have gt := good_tot h hn (by omega) (a + 1) (Nat.le_refl _)
  have hr : dMake 3 m_Ratio___init___2 [] (dCons (dC (.int 1)) (dCons (dVar 3) dNil)) (een c dg (els c a) (a + 1) (totS c (els c a) (a + 1) (a + 1)) x1 y1) = some (rD (mkRat 1 (a + 1))) := by
    refine (dMake_of (n := 3) (m := m_Ratio___init___2) (dd := []) (as := [.int 1, .int ((a + 1 : Nat) : Int)]) rfl rfl).trans ?_
    have := dMk (n := 1) (d := ((a + 1 : Nat) : Int)) (by omega) (by
      rw [Int.natAbs_natCast]
      exact Nat.lt_trans (show a + 1 < 2 ^ 10 by omega) (Nat.pow_lt_pow_right (by decide) (by decide)))
    rw [Int.toNat_natCast] at this
    exact this
  obtain ⟨_, _, i3⟩ := in_inv (j := a + 1) (by omega) (by omega)
  have hb : (a + 1) * 18 ^ (a + 1 - 1) < 2 ^ 4000 := by
    calc (a + 1) * 18 ^ (a + 1 - 1) ≤ 18 * 18 ^ (a + 1 - 1) := Nat.mul_le_mul_right _ (by omega)
      _ = 18 ^ (a + 1) := by rw [Nat.mul_comm, ← Nat.pow_succ]; rfl
      _ < 2 ^ 4000 := pow_lt _ _ (by omega) (by decide)
  have hsc := gt.scl_eq (kind := "number") hn (by decide) (by omega) (pow_lt _ _ (by omega) (by decide)) hb i3
  have hm := meth_scaled (g := dVar 4) (h := dMake 3 m_Ratio___init___2 [] (dCons (dC (.int 1)) (dCons (dVar 3) dNil))) (env := een c dg (els c a) (a + 1) (totS c (els c a) (a + 1) (a + 1)) x1 y1) rfl hr hsc
  have h3 : dApp 2 (dMeth 1 "scaled" 2 m_Poly_scaled [] (dVar 4) (dCons (dMake 3 m_Ratio___init___2 [] (dCons (dC (.int 1)) (dCons (dVar 3) dNil))) dNil)) (een c dg (els c a) (a + 1) (totS c (els c a) (a + 1) (a + 1)) x1 y1) = some (.nx (eo c dg (els c (a + 1)) (some (.int ((a + 1 : Nat) : Int), .fz)) (some (pD "number" (totS c (els c a) (a + 1) (a + 1)), .fz)) x1 y1)) := by
    have hz : ((els c a).map (pD "number")).length < smallL := by rw [List.length_map, hl]; have : smallL = 100000 := rfl; omega
    have e : (een c dg (els c a) (a + 1) (totS c (els c a) (a + 1) (a + 1)) x1 y1)[2]? = some (some (.lst ((els c a).map (pD "number")), .ow)) := rfl
    unfold dApp
    rw [e]
    simp only
    rw [if_neg (by decide), if_pos hz, hm]
    have e2 : els c (a + 1) = els c a ++ [canon (sclR (mkRat 1 (a + 1)) (totS c (els c a) (a + 1) (a + 1)))] := rfl
    rw [e2]
    unfold eo
    rw [List.map_append]
    rfl
  refine ⟨some (.int ((a + 1 : Nat) : Int), .fz), some (pD "number" (totS c (els c a) (a + 1) (a + 1)), .fz), x1, y1, ?_⟩
  unfold bOut
  rw [dSeq, h1]
  simp only
  rw [dSeq, h2]
  simp only
  exact h3
theorem el_last {j : Nat} {s t x y : Option (D × Fl)} : dIxO 2 (dNeg (dC (.int 1))) (eo c j (els c j) s t x y) = some (pD "number" (ele c j)) := by
  have hi : atI ((els c j).map (pD "number")) (-1 - ((0 : Nat) : Int)) = some (pD "number" (ele c j)) := by
    refine atI_neg (by rw [List.length_map, els_len]; omega) ?_
    rw [List.length_map, els_len, List.getElem?_map]
    have : (els c j)[j + 1 - 1 - 0]? = some (ele c j) := by
      unfold ele
      rw [List.getD_eq_getElem?_getD, show j + 1 - 1 - 0 = j by omega, List.getElem?_eq_getElem (by rw [els_len]; omega)]
      rfl
    rw [this]
    rfl
  have e : (-1 - ((0 : Nat) : Int)) = -1 := by decide
  rw [e] at hi
  simp only [dIxO, eo, List.getElem?_cons_zero, List.getElem?_cons_succ, dNeg, dC]
  exact hi
theorem el_range {j : Nat} (hj : j ≤ 3) : dRg2 (dCons (dC (.int 1)) (dCons (dBin gAdd (dVar 0) (dC (.int 1))) dNil)) (eo c j (els c 0) none none none none) = some ((List.range j).map fun x => D.int ((x + 1 : Nat) : Int)) := by
  have : dCons (dC (.int 1)) (dCons (dBin gAdd (dVar 0) (dC (.int 1))) dNil) (eo c j (els c 0) none none none none) = some [.int 1, .int ((j : Int) + 1)] := rfl
  unfold dRg2
  rw [this]
  simp only
  rw [if_pos ⟨by omega, by omega⟩, rangeD1]
theorem el_start {j : Nat} : dSetO 2 (dLst (dCons (dCall 2 m_Poly_constant [] (dCons (dC (.str "number")) (dCons (dMake 3 m_Ratio___init___1 [.int 1] (dCons (dC (.int 1)) dNil)) dNil))) dNil)) [some (.int j, .fz), some (.str (xs c 1), .fz), none, none, none, none, none] = some (.nx (eo c j (els c 0) none none none none)) := by
  have hr := dMk1 (h := dC (.int 1)) (env := [some (.int j, .fz), some (.str (xs c 1), .fz), none, none, none, none, none]) (i := 1) rfl
  have h11 : ((1 : Int) : Rat) = 1 := rfl
  rw [h11] at hr
  have hc : dCall 2 m_Poly_constant [] (dCons (dC (.str "number")) (dCons (dMake 3 m_Ratio___init___1 [.int 1] (dCons (dC (.int 1)) dNil)) dNil)) [some (.int j, .fz), some (.str (xs c 1), .fz), none, none, none, none, none] = some (pD "number" (con1 c)) := by
    refine (dCall_of (n := 2) (m := m_Poly_constant) (dd := []) (as := [.str "number", rD 1]) ?_ rfl).trans (Poly_constant1 "number" c)
    simp only [dCons, dC, hr, dNil]
  simp only [dSetO, dLst, dCons, hc, dNil, Option.map_some]
  rfl
theorem el_loop {j : Nat} (hj : j ≤ 3) : ∃ s t x y, forL (.nm 3) bOut ((List.range j).map fun x => D.int ((x + 1 : Nat) : Int)) (eo c j (els c 0) none none none none) = some (.nx (eo c j (els c j) s t x y)) := by
  obtain ⟨e2, h2, s', t', x', y', h3⟩ := forL_all (i := 3) (body := bOut) (P := fun a e => ∃ s t x y, e = eo c j (els c a) s t x y) (l := (List.range j).map fun x => D.int ((x + 1 : Nat) : Int)) (env := eo c j (els c 0) none none none none) (fun a e d hd ⟨s, t, x', y', he⟩ => by
    obtain ⟨ha, rfl⟩ := range_get hd
    subst he
    obtain ⟨s2, t2, x2, y2, h⟩ := out_step (c := c) (n := 3) (dg := j) (a := a) (s := s) (t := t) (x := x') (y := y') (by omega) (by omega)
    exact ⟨_, h, _, _, _, _, rfl⟩) ⟨none, none, none, none, rfl⟩
  have hl : ((List.range j).map fun x => D.int ((x + 1 : Nat) : Int)).length = j := by simp
  rw [hl] at h3
  subst h3
  exact ⟨s', t', x', y', h2⟩
theorem el_loop2 {j : Nat} (hj : j ≤ 3) : ∃ s t x y, dFor (.nm 3) (dRg2 (dCons (dC (.int 1)) (dCons (dBin gAdd (dVar 0) (dC (.int 1))) dNil))) bOut (eo c j (els c 0) none none none none) = some (.nx (eo c j (els c j) s t x y)) := by
  obtain ⟨s, t, x, y, h⟩ := el_loop (c := c) hj
  exact ⟨s, t, x, y, by rw [dFor, el_range hj]; exact h⟩
theorem d_el : d_elementary = dSeq (dSetO 2 (dLst (dCons (dCall 2 m_Poly_constant [] (dCons (dC (.str "number")) (dCons (dMake 3 m_Ratio___init___1 [.int 1] (dCons (dC (.int 1)) dNil)) dNil))) dNil))) (dSeq (dFor (.nm 3) (dRg2 (dCons (dC (.int 1)) (dCons (dBin gAdd (dVar 0) (dC (.int 1))) dNil))) bOut) (dRet (dIxO 2 (dNeg (dC (.int 1)))))) := by
  unfold d_elementary bOut bIn
  rfl
theorem elementary_eq {j : Nat} (hj : j ≤ 3) : m_elementary [.int j, .str (xs c 1)] = some (pD "number" (ele c j)) := by
  obtain ⟨s, t, x, y, h4⟩ := el_loop2 (c := c) hj
  have e0 : env0 7 [D.int (j : Int), .str (xs c 1)] = [some (.int j, .fz), some (.str (xs c 1), .fz), none, none, none, none, none] := rfl
  refine runD_rt (e0 ▸ ?_)
  rw [d_el]
  refine (dSeq_nx el_start).trans ((dSeq_nx h4).trans ?_)
  exact dRet_of el_last
end
end Pd73

/-! k73, mathematics: the functionals of elementary polynomials. -/
namespace Pd73
open PySem PySem.Spec PyProof.Rows L2 Pd

/-- the key of t_n1 t_n2 .. x^w -/
def ku (c : Nat) (ns : List Nat) (w : Nat) : KY := uk c (ns.mergeSort nle) w
theorem ku_perm (c : Nat) {a b : List Nat} (p : a.Perm b) (w : Nat) : ku c a w = ku c b w := by unfold ku; rw [sort_perm' p]
theorem jn_ku (c : Nat) (a b : List Nat) (w v : Nat) : jn (ku c a w) (ku c b v) = ku c (a ++ b) (w + v) := by
  unfold ku
  rw [jn_uk]
  congr 1
  exact sort_perm' ((List.mergeSort_perm a nle).append (List.mergeSort_perm b nle))
theorem ku_srt {c : Nat} {ns : List Nat} (h : srt ns) (w : Nat) : uk c ns w = ku c ns w := by unfold ku; rw [show ns.mergeSort nle = ns from h]
theorem S_con (g : KY → Rat) (c : Nat) : S g (con1 c) = g (ku c [] 0) := by rw [con1, S_mo, ku_srt srt_nil]
theorem S_tr (g : KY → Rat) (c i : Nat) : S g (trp c i) = g (ku c [i] 0) := by rw [trp, S_mo, ku_srt (srt_one i)]
theorem S_lp (g : KY → Rat) (c i : Nat) : S g (lpp c i) = g (ku c [] i) := by rw [lpp, S_mo, ku_srt srt_nil]
theorem S_mul_tr (g : KY → Rat) (c i : Nat) (l : PL) : S g (mulL l (trp c i)) = S (fun a => g (jn a (ku c [i] 0))) l := by
  rw [S_mul, S_tr]
  rfl
theorem S_canscl (g : KY → Rat) (q : Rat) {l : PL} (n : (l.map (·.1)).Nodup) : S g (canon (sclR q l)) = q * S g l := by
  rw [S_canon g (by rw [sclR_keys]; exact n), S_scl]
theorem S_sub (g : KY → Rat) {l m : PL} (n : (l.map (·.1)).Nodup) (k : (m.map (·.1)).Nodup) : S g (subL l m) = S g l - S g m := by
  unfold subL
  rw [S_sum g n, S_canscl g _ k]
  grind
theorem ele0 (c : Nat) : ele c 0 = con1 c := rfl
section
variable (c : Nat)
theorem els_getD {i j : Nat} (h : i ≤ j) : (els c j).getD i [] = ele c i := els_get c h
theorem nd_tot {j a : Nat} (hj : j + 1 ≤ 3) (ha : a ≤ j + 1) : ((totS c (els c j) (j + 1) a).map (·.1)).Nodup :=
  (good_tot (n := 3) (goodE_els (by decide) (by omega)) (by decide) (by omega) a ha).can.nd
theorem nd_prt {j a : Nat} (hj : j + 1 ≤ 3) (ha : a < j + 1) : ((mulL ((els c j).getD (j + 1 - (a + 1)) []) (trp c (a + 1))).map (·.1)).Nodup :=
  (good_prt (n := 3) (goodE_els (by decide) (by omega)) (by decide) (by omega) ha).can.nd
theorem S_tot_odd (g : KY → Rat) {j a : Nat} (hj : j + 1 ≤ 3) (ha : a < j + 1) (ho : (a + 1) % 2 = 1) : S g (totS c (els c j) (j + 1) (a + 1)) = S g (totS c (els c j) (j + 1) a) + S (fun b => g (jn b (ku c [a + 1] 0))) (ele c (j - a)) := by
  rw [totS, if_pos ho, S_sum g (nd_tot c hj (by omega)), S_mul_tr, show j + 1 - (a + 1) = j - a by omega, els_getD c (by omega)]
theorem S_tot_even (g : KY → Rat) {j a : Nat} (hj : j + 1 ≤ 3) (ha : a < j + 1) (ho : ¬ (a + 1) % 2 = 1) : S g (totS c (els c j) (j + 1) (a + 1)) = S g (totS c (els c j) (j + 1) a) - S (fun b => g (jn b (ku c [a + 1] 0))) (ele c (j - a)) := by
  rw [totS, if_neg ho, S_sub g (nd_tot c hj (by omega)) (nd_prt c hj ha), S_mul_tr, show j + 1 - (a + 1) = j - a by omega, els_getD c (by omega)]
theorem ele_succ (j : Nat) : ele c (j + 1) = canon (sclR (mkRat 1 (j + 1)) (totS c (els c j) (j + 1) (j + 1))) := by
  unfold ele
  rw [els, List.getD_eq_getElem?_getD, List.getElem?_append_right (by rw [els_len]; omega), els_len]
  simp
theorem S_ele_succ (g : KY → Rat) {j : Nat} (hj : j + 1 ≤ 3) : S g (ele c (j + 1)) = mkRat 1 (j + 1) * S g (totS c (els c j) (j + 1) (j + 1)) := by
  rw [ele_succ, S_canscl g _ (nd_tot c hj (Nat.le_refl _))]
theorem S_ele1 (g : KY → Rat) : S g (ele c 1) = g (ku c [1] 0) := by
  rw [S_ele_succ c g (by decide), S_tot_odd c g (by decide) (by decide) (by decide)]
  rw [show (0 - 0 : Nat) = 0 from rfl, ele0, S_con, jn_ku]
  simp only [totS, S]
  have : (mkRat 1 (0 + 1) : Rat) = 1 := by decide +kernel
  rw [this]
  show 1 * (0 + g (ku c [1] 0)) = _
  grind
theorem S_ele2 (g : KY → Rat) : S g (ele c 2) = mkRat 1 2 * (g (ku c [1, 1] 0) - g (ku c [2] 0)) := by
  rw [S_ele_succ c g (by decide), S_tot_even c g (by decide) (by decide) (by decide), S_tot_odd c g (by decide) (by decide) (by decide)]
  rw [show (1 - 0 : Nat) = 1 from rfl, show (1 - 1 : Nat) = 0 from rfl, ele0, S_con, S_ele1, jn_ku, jn_ku]
  simp only [totS, S]
  show mkRat 1 2 * (0 + g (ku c [1, 1] 0) - g (ku c [2] 0)) = _
  grind
theorem S_ele3 (g : KY → Rat) : S g (ele c 3) = mkRat 1 6 * (g (ku c [1, 1, 1] 0) - 3 * g (ku c [1, 2] 0) + 2 * g (ku c [3] 0)) := by
  rw [S_ele_succ c g (by decide), S_tot_odd c g (by decide) (by decide) (by decide), S_tot_even c g (by decide) (by decide) (by decide), S_tot_odd c g (by decide) (by decide) (by decide)]
  rw [show (2 - 0 : Nat) = 2 from rfl, show (2 - 1 : Nat) = 1 from rfl, show (2 - 2 : Nat) = 0 from rfl, ele0, S_con, S_ele1, S_ele2, jn_ku, jn_ku, jn_ku, jn_ku]
  simp only [totS, S]
  have e1 : ku c ([2] ++ [0 + 1]) (0 + 0) = ku c [1, 2] 0 := ku_perm c (List.Perm.swap 1 2 []) 0
  rw [e1]
  show mkRat 1 3 * (0 + mkRat 1 2 * (g (ku c [1, 1, 1] 0) - g (ku c [1, 2] 0)) - g (ku c [1, 2] 0) + g (ku c [3] 0)) = _
  have h3 : (mkRat 1 3 : Rat) = 1 / 3 := by decide +kernel
  have h2 : (mkRat 1 2 : Rat) = 1 / 2 := by decide +kernel
  have h6 : (mkRat 1 6 : Rat) = 1 / 6 := by decide +kernel
  rw [h2, h3, h6]
  grind
end
end Pd73

/-! k73, mathematics: continued. -/
namespace Pd73
open PySem PySem.Spec PyProof.Rows L2 Pd

section
variable (c : Nat)
/-- the factor number i -/
def fac (i : Nat) : PL := canon (sclR (if i % 2 = 1 then 1 else -1) (ele c i))
/-- the sum of the first a + 1 products -/
def totC (F : List PL) : Nat → PL
  | 0 => mulL (fac c 1) (F.getD (F.length - 1) [])
  | a + 1 => sumL (totC F a) (mulL (fac c (a + 2)) (F.getD (F.length - 1 - (a + 1)) []))
/-- k more -/
def seqX (n : Nat) (F : List PL) : Nat → List PL
  | 0 => F
  | k + 1 => seqX n F k ++ [totC c (seqX n F k) (n - 1)]
theorem seqX_len (n : Nat) (F : List PL) : ∀ k, (seqX c n F k).length = F.length + k
  | 0 => rfl
  | k + 1 => by rw [seqX, List.length_append, seqX_len n F k]; rfl
theorem good_fac {n i : Nat} (hn : n ≤ 3) (h1 : 1 ≤ i) (hi : i ≤ n) : Good c n 0 i (6 ^ i) (18 ^ i) (fac c i) := by
  have g := good_ele (c := c) hn hi
  unfold fac
  split
  · have := g.scl (m' := 1) (e := 1) (q := 1) (by decide) in1.1 (by rw [in1.2]; decide)
    rw [Nat.one_mul, Nat.one_mul] at this
    exact this
  · exact g.neg
/-- F: polynomials of the degrees o, o + 1, .. -/
structure GoodX (n v o : Nat) (F : List PL) : Prop where
  g : ∀ i, i < F.length → Good c n v (o + i) (6 ^ (o + i)) (54 ^ (o + i)) (F.getD i [])
variable {c} {n v o : Nat}
theorem good_pc {F : List PL} {a : Nat} (h : GoodX c n v o F) (hn : n ≤ 3) (ha : a < n) (hl : n ≤ F.length) : Good c n v (o + F.length) (6 ^ (o + F.length)) (18 * 54 ^ (o + F.length - 1)) (mulL (fac c (a + 1)) (F.getD (F.length - 1 - a) [])) := by
  have g1 := good_fac c hn (i := a + 1) (by omega) (by omega)
  have g2 := h.g (F.length - 1 - a) (by omega)
  have g3 := g1.mul g2
  rw [← Nat.pow_add, show a + 1 + (o + (F.length - 1 - a)) = o + F.length by omega] at g3
  refine g3.mono ?_
  calc 18 ^ (a + 1) * 54 ^ (o + (F.length - 1 - a)) = 18 * (18 ^ a * 54 ^ (o + (F.length - 1 - a))) := by rw [Nat.pow_succ, Nat.mul_comm (18 ^ a) 18, Nat.mul_assoc]
    _ ≤ 18 * (54 ^ a * 54 ^ (o + (F.length - 1 - a))) := Nat.mul_le_mul_left _ (Nat.mul_le_mul_right _ (Nat.pow_le_pow_left (by decide) _))
    _ = 18 * 54 ^ (o + F.length - 1) := by rw [← Nat.pow_add, show a + (o + (F.length - 1 - a)) = o + F.length - 1 by omega]
theorem good_totC {F : List PL} (h : GoodX c n v o F) (hn : n ≤ 3) (hl : n ≤ F.length) : ∀ a, a < n → Good c n v (o + F.length) (6 ^ (o + F.length)) ((a + 1) * (18 * 54 ^ (o + F.length - 1))) (totC c F a)
  | 0, ha => by
    have := good_pc h hn ha hl
    rw [Nat.zero_add, Nat.one_mul]
    exact this
  | a + 1, ha => by
    rw [Nat.succ_mul]
    exact (good_totC h hn hl a (by omega)).sum (good_pc h hn ha hl)
theorem good_seq {F : List PL} (h : GoodX c n v o F) (hn : n ≤ 3) (h1 : 1 ≤ n) (hl : n ≤ F.length) : ∀ k, GoodX c n v o (seqX c n F k)
  | 0 => h
  | k + 1 => by
    have ih := good_seq h hn h1 hl k
    have hlen := seqX_len c n F k
    refine ⟨fun i hi => ?_⟩
    rw [seqX, List.length_append] at hi
    have hi' : i < (seqX c n F k).length + 1 := hi
    by_cases q : i = (seqX c n F k).length
    · subst q
      have e : (seqX c n F (k + 1)).getD (seqX c n F k).length [] = totC c (seqX c n F k) (n - 1) := by
        rw [seqX, List.getD_eq_getElem?_getD, List.getElem?_append_right (Nat.le_refl _)]
        simp
      rw [e]
      refine (good_totC ih hn (by omega) (n - 1) (by omega)).mono ?_
      rw [show n - 1 + 1 = n by omega]
      generalize hD : o + (seqX c n F k).length = Dg
      have hD1 : 1 ≤ Dg := by omega
      have e2 : 54 ^ Dg = 54 * 54 ^ (Dg - 1) := by rw [Nat.mul_comm, ← Nat.pow_succ, show (Dg - 1).succ = Dg by omega]
      rw [e2, ← Nat.mul_assoc]
      exact Nat.mul_le_mul_right _ (by omega)
    · have e : (seqX c n F (k + 1)).getD i [] = (seqX c n F k).getD i [] := by
        rw [seqX, List.getD_eq_getElem?_getD, List.getElem?_append_left (by omega), ← List.getD_eq_getElem?_getD]
      rw [e]
      exact ih.g i (by omega)
theorem seqX_getD {F : List PL} {i k : Nat} (hi : i < F.length + k) : ∀ {j : Nat}, k ≤ j → (seqX c n F j).getD i [] = (seqX c n F k).getD i []
  | 0, h => by have : k = 0 := by omega
               subst this; rfl
  | j + 1, h => by
    by_cases q : k = j + 1
    · subst q; rfl
    · have hlen := seqX_len c n F j
      rw [seqX, List.getD_eq_getElem?_getD, List.getElem?_append_left (by omega), ← List.getD_eq_getElem?_getD]
      exact seqX_getD hi (by omega)
end

/-! ### the loops -/
section
variable {c n v o : Nat} {kind : Str}
def facs (c n : Nat) : List PL := (List.range n).map fun i => fac c (i + 1)
def cen (c n : Nat) (kind : Str) (fs : D) (many : Int) (F : List PL) (t x : Option (D × Fl)) : DEnv := [some (fs, .fz), some (.lst ((facs c n).map (pD "number")), .fz), some (.int many, .fz), some (.lst (F.map (pD kind)), .ow), t, x]
theorem facs_get {i : Nat} (h : i < n) : ((facs c n).map (pD "number"))[i]? = some (pD "number" (fac c (i + 1))) := by
  unfold facs
  rw [List.getElem?_map, List.getElem?_map, List.getElem?_range h]
  rfl
theorem fnd_get {F : List PL} {j : Nat} (hj : j < F.length) : atI (F.map (pD kind)) (-1 - (j : Int)) = some (pD kind (F.getD (F.length - 1 - j) [])) := by
  refine atI_neg (by rw [List.length_map]; exact hj) ?_
  rw [List.length_map, List.getElem?_map, List.getElem?_eq_getElem (by omega), List.getD_eq_getElem?_getD, List.getElem?_eq_getElem (by omega)]
  rfl
theorem mulC {F : List PL} {a : Nat} (h : GoodX c n v o F) (hn : n ≤ 3) (hv : v ≤ 2) (ha : a < n) (hl : n ≤ F.length) (hD : o + F.length ≤ 20) : m_Poly___mul__ [pD "number" (fac c (a + 1)), pD kind (F.getD (F.length - 1 - a) [])] = some (pD kind (mulL (fac c (a + 1)) (F.getD (F.length - 1 - a) []))) := by
  have g1 := good_fac c hn (i := a + 1) (by omega) (by omega)
  have g2 := h.g (F.length - 1 - a) (by omega)
  refine g1.mul_eq (kind := kind) g2 hn hv (by omega) ?_ (pow_lt _ _ (by omega) (by decide)) (pow_lt _ _ (by omega) (by decide)) ?_
  · rw [← Nat.pow_add]; exact pow_lt _ _ (by omega) (by decide)
  · calc 18 ^ (a + 1) * 54 ^ (o + (F.length - 1 - a)) ≤ 54 ^ (a + 1) * 54 ^ (o + (F.length - 1 - a)) := Nat.mul_le_mul_right _ (Nat.pow_le_pow_left (by decide) _)
      _ = 54 ^ (a + 1 + (o + (F.length - 1 - a))) := by rw [← Nat.pow_add]
      _ < 2 ^ 4000 := pow_lt _ _ (by omega) (by decide)
def bC1 : DS := (dSet 4 (dBin (gOwn 1 m_Poly___add__) (dVar 4) (dBin (gOwn 1 m_Poly___mul__) (dBin gIx (dVar 1) (dVar 5)) (dIxO 3 (dBin (gI fun i j => i - j) (dNeg (dC (.int 1))) (dVar 5))))))
theorem c1_step {fs : D} {many : Int} {F : List PL} {a : Nat} {x : Option (D × Fl)} (h : GoodX c n v o F) (hn : n ≤ 3) (hv : v ≤ 2) (ha : a + 1 < n) (hl : n ≤ F.length) (hD : o + F.length ≤ 20) :
    bC1 ((cen c n kind fs many F (some (pD kind (totC c F a), .fz)) x).set 5 (some (.int ((a + 1 : Nat) : Int), .fz))) = some (.nx (cen c n kind fs many F (some (pD kind (totC c F (a + 1)), .fz)) (some (.int ((a + 1 : Nat) : Int), .fz)))) := by
  have e1 : (cen c n kind fs many F (some (pD kind (totC c F a), .fz)) x).set 5 (some (.int ((a + 1 : Nat) : Int), .fz)) = cen c n kind fs many F (some (pD kind (totC c F a), .fz)) (some (.int ((a + 1 : Nat) : Int), .fz)) := rfl
  rw [e1]
  have hf : dBin gIx (dVar 1) (dVar 5) (cen c n kind fs many F (some (pD kind (totC c F a), .fz)) (some (.int ((a + 1 : Nat) : Int), .fz))) = some (pD "number" (fac c (a + 2))) := by
    refine (dBin_of (x := .lst ((facs c n).map (pD "number"))) (y := .int ((a + 1 : Nat) : Int)) rfl rfl).trans ?_
    exact atI_nat (facs_get (c := c) ha)
  have hx : dIxO 3 (dBin (gI fun i j => i - j) (dNeg (dC (.int 1))) (dVar 5)) (cen c n kind fs many F (some (pD kind (totC c F a), .fz)) (some (.int ((a + 1 : Nat) : Int), .fz))) = some (pD kind (F.getD (F.length - 1 - (a + 1)) [])) := by
    have := fnd_get (kind := kind) (F := F) (j := a + 1) (by omega)
    exact this
  have hm := mulC (kind := kind) h hn hv ha hl hD
  have hmul : dBin (gOwn 1 m_Poly___mul__) (dBin gIx (dVar 1) (dVar 5)) (dIxO 3 (dBin (gI fun i j => i - j) (dNeg (dC (.int 1))) (dVar 5))) (cen c n kind fs many F (some (pD kind (totC c F a), .fz)) (some (.int ((a + 1 : Nat) : Int), .fz))) = some (pD kind (mulL (fac c (a + 2)) (F.getD (F.length - 1 - (a + 1)) []))) :=
    (dBin_of hf hx).trans (gOwn1.trans hm)
  have g1 := good_totC h hn hl a (by omega)
  have g2 := good_pc h hn ha hl
  have hb : (a + 1) * (18 * 54 ^ (o + F.length - 1)) + 18 * 54 ^ (o + F.length - 1) < 2 ^ 4000 := by
    rw [← Nat.succ_mul, ← Nat.mul_assoc]
    calc (a + 1).succ * 18 * 54 ^ (o + F.length - 1) ≤ 54 * 54 ^ (o + F.length - 1) := Nat.mul_le_mul_right _ (by omega)
      _ = 54 ^ (o + F.length - 1 + 1) := by rw [Nat.mul_comm, ← Nat.pow_succ]
      _ < 2 ^ 4000 := pow_lt _ _ (by omega) (by decide)
  have hadd := g1.add_eq (kind := kind) g2 hn hv hD (pow_lt _ _ (by omega) (by decide)) hb
  have h4 : dBin (gOwn 1 m_Poly___add__) (dVar 4) (dBin (gOwn 1 m_Poly___mul__) (dBin gIx (dVar 1) (dVar 5)) (dIxO 3 (dBin (gI fun i j => i - j) (dNeg (dC (.int 1))) (dVar 5)))) (cen c n kind fs many F (some (pD kind (totC c F a), .fz)) (some (.int ((a + 1 : Nat) : Int), .fz))) = some (pD kind (totC c F (a + 1))) :=
    (dBin_of (x := pD kind (totC c F a)) rfl hmul).trans (gOwn1.trans hadd)
  exact dSet_of h4
def bC : DS := (dSeq (dSet 4 (dBin (gOwn 1 m_Poly___mul__) (dBin gIx (dVar 1) (dC (.int 0))) (dIxO 3 (dNeg (dC (.int 1)))))) (dSeq (dFor (.nm 5) (dRg2 (dCons (dC (.int 1)) (dCons (dMap gLen (dVar 1)) dNil))) bC1) (dApp 3 (dVar 4))))
theorem c_step {fs : D} {many : Int} {F : List PL} {t x : Option (D × Fl)} (h : GoodX c n v o F) (hn : n ≤ 3) (h1 : 1 ≤ n) (hv : v ≤ 2) (hl : n ≤ F.length) (hD : o + F.length ≤ 20) :
    ∃ t' x', bC (cen c n kind fs many F t x) = some (.nx (cen c n kind fs many (F ++ [totC c F (n - 1)]) t' x')) := by
  have hf : dBin gIx (dVar 1) (dC (.int 0)) (cen c n kind fs many F t x) = some (pD "number" (fac c 1)) := by
    refine (dBin_of (x := .lst ((facs c n).map (pD "number"))) (y := .int 0) rfl rfl).trans ?_
    exact atI_nat (facs_get (c := c) (i := 0) (by omega))
  have hx : dIxO 3 (dNeg (dC (.int 1))) (cen c n kind fs many F t x) = some (pD kind (F.getD (F.length - 1) [])) := by
    have := fnd_get (kind := kind) (F := F) (j := 0) (by omega)
    rw [show F.length - 1 - 0 = F.length - 1 by omega] at this
    have e : (-1 - ((0 : Nat) : Int)) = -1 := by decide
    rw [e] at this
    exact this
  have hm := mulC (kind := kind) (a := 0) h hn hv (by omega) hl hD
  rw [show F.length - 1 - 0 = F.length - 1 by omega] at hm
  have hmul : dBin (gOwn 1 m_Poly___mul__) (dBin gIx (dVar 1) (dC (.int 0))) (dIxO 3 (dNeg (dC (.int 1)))) (cen c n kind fs many F t x) = some (pD kind (totC c F 0)) :=
    (dBin_of hf hx).trans (gOwn1.trans hm)
  have hset : dSet 4 (dBin (gOwn 1 m_Poly___mul__) (dBin gIx (dVar 1) (dC (.int 0))) (dIxO 3 (dNeg (dC (.int 1))))) (cen c n kind fs many F t x) = some (.nx (cen c n kind fs many F (some (pD kind (totC c F 0), .fz)) x)) := dSet_of hmul
  have hr : dRg2 (dCons (dC (.int 1)) (dCons (dMap gLen (dVar 1)) dNil)) (cen c n kind fs many F (some (pD kind (totC c F 0), .fz)) x) = some ((List.range (n - 1)).map fun x => D.int ((x + 1 : Nat) : Int)) := by
    have hlf : ((facs c n).map (pD "number")).length = n := by simp [facs]
    have : dCons (dC (.int 1)) (dCons (dMap gLen (dVar 1)) dNil) (cen c n kind fs many F (some (pD kind (totC c F 0), .fz)) x) = some [.int 1, .int (((facs c n).map (pD "number")).length : Nat)] := rfl
    rw [hlf] at this
    unfold dRg2
    rw [this]
    simp only
    rw [if_pos ⟨by omega, by omega⟩]
    have e : (n : Int) = ((n - 1 : Nat) : Int) + 1 := by omega
    rw [e, rangeD1]
  obtain ⟨e2, h2, x', h3⟩ := forL_all (i := 5) (body := bC1) (P := fun a e => ∃ x, e = cen c n kind fs many F (some (pD kind (totC c F a), .fz)) x) (l := (List.range (n - 1)).map fun x => D.int ((x + 1 : Nat) : Int)) (env := cen c n kind fs many F (some (pD kind (totC c F 0), .fz)) x) (fun a e d hd ⟨x', he⟩ => by
    obtain ⟨ha, rfl⟩ := range_get hd
    subst he
    exact ⟨_, c1_step (kind := kind) (fs := fs) (many := many) (x := x') h hn hv (a := a) (by omega) hl hD, _, rfl⟩) ⟨x, rfl⟩
  have hlen : ((List.range (n - 1)).map fun x => D.int ((x + 1 : Nat) : Int)).length = n - 1 := by simp
  rw [hlen] at h3
  subst h3
  have hfor : dFor (.nm 5) (dRg2 (dCons (dC (.int 1)) (dCons (dMap gLen (dVar 1)) dNil))) bC1 (cen c n kind fs many F (some (pD kind (totC c F 0), .fz)) x) = some (.nx (cen c n kind fs many F (some (pD kind (totC c F (n - 1)), .fz)) x')) := (dFor_of hr).trans h2
  have happ : dApp 3 (dVar 4) (cen c n kind fs many F (some (pD kind (totC c F (n - 1)), .fz)) x') = some (.nx (cen c n kind fs many (F ++ [totC c F (n - 1)]) (some (pD kind (totC c F (n - 1)), .fz)) x')) := by
    have hz : (F.map (pD kind)).length < smallL := by rw [List.length_map]; have : smallL = 100000 := rfl; omega
    have e : (cen c n kind fs many F (some (pD kind (totC c F (n - 1)), .fz)) x')[3]? = some (some (.lst (F.map (pD kind)), .ow)) := rfl
    have ev : dVar 4 (cen c n kind fs many F (some (pD kind (totC c F (n - 1)), .fz)) x') = some (pD kind (totC c F (n - 1))) := rfl
    unfold dApp
    rw [e]
    simp only
    rw [if_neg (by decide), if_pos hz, ev]
    unfold cen
    rw [List.map_append]
    rfl
  exact ⟨_, _, (dSeq_nx hset).trans ((dSeq_nx hfor).trans happ)⟩
theorem whileL_t {c : DT} {b : DS} {n : Nat} {e e2 : DEnv} (h : c e = some true) (h2 : b e = some (.nx e2)) : whileL c b (n + 1) e = whileL c b n e2 := by
  rw [whileL, h]
  simp only [h2]
theorem whileL_f {c : DT} {b : DS} {n : Nat} {e : DEnv} (h : c e = some false) : whileL c b (n + 1) e = some (.nx e) := by
  rw [whileL, h]
theorem c_while {fs : D} {many : Nat} {F : List PL} (h : GoodX c n v o F) (hn : n ≤ 3) (h1 : 1 ≤ n) (hv : v ≤ 2) (hl : n ≤ F.length) (hD : o + many ≤ 21) : ∀ {j k fuel : Nat} {t x : Option (D × Fl)}, many - (F.length + k) = j → j < fuel →
    ∃ t' x', whileL (dB (dBin gLt (dMap gLen (dPk 3)) (dVar 2))) bC fuel (cen c n kind fs many (seqX c n F k) t x) = some (.nx (cen c n kind fs many (seqX c n F (k + j)) t' x')) := by
  intro j
  induction j with
  | zero =>
    intro k fuel t x hj hf
    obtain ⟨m, rfl⟩ : ∃ m, fuel = m + 1 := ⟨fuel - 1, by omega⟩
    have hlen := seqX_len c n F k
    refine ⟨t, x, ?_⟩
    have hc : dB (dBin gLt (dMap gLen (dPk 3)) (dVar 2)) (cen c n kind fs many (seqX c n F k) t x) = some false := by
      have e : dBin gLt (dMap gLen (dPk 3)) (dVar 2) (cen c n kind fs many (seqX c n F k) t x) = some (.bl (decide ((((seqX c n F k).map (pD kind)).length : Int) < (many : Int)))) := rfl
      rw [dB_of e]
      rw [List.length_map, hlen]
      congr 1
      exact decide_eq_false (by omega)
    exact whileL_f hc
  | succ j ih =>
    intro k fuel t x hj hf
    obtain ⟨m, rfl⟩ : ∃ m, fuel = m + 1 := ⟨fuel - 1, by omega⟩
    have hlen := seqX_len c n F k
    have hc : dB (dBin gLt (dMap gLen (dPk 3)) (dVar 2)) (cen c n kind fs many (seqX c n F k) t x) = some true := by
      have e : dBin gLt (dMap gLen (dPk 3)) (dVar 2) (cen c n kind fs many (seqX c n F k) t x) = some (.bl (decide ((((seqX c n F k).map (pD kind)).length : Int) < (many : Int)))) := rfl
      rw [dB_of e]
      rw [List.length_map, hlen]
      congr 1
      exact decide_eq_true (by omega)
    obtain ⟨t1, x1, hs⟩ := c_step (kind := kind) (fs := fs) (many := many) (t := t) (x := x) (good_seq h hn h1 hl k) hn h1 hv (by omega) (by omega)
    obtain ⟨t2, x2, hw⟩ := ih (k := k + 1) (fuel := m) (t := t1) (x := x1) (by omega) (by omega)
    refine ⟨t2, x2, ?_⟩
    rw [whileL_t hc hs, show k + (j + 1) = k + 1 + j by omega]
    exact hw
theorem d_con : d_continued = dSeq (dSetO 3 (dMap gList (dVar 0))) (dSeq (dWhile 1000 (dB (dBin gLt (dMap gLen (dPk 3)) (dVar 2))) bC) (dFrz 3 (dRet (dVar 3)))) := by
  unfold d_continued bC bC1
  rfl
theorem continued_eq {many : Nat} {F : List PL} (h : GoodX c n v o F) (hn : n ≤ 3) (h1 : 1 ≤ n) (hv : v ≤ 2) (hl : n ≤ F.length) (hD : o + many ≤ 21) :
    m_continued [.lst (F.map (pD kind)), .lst ((facs c n).map (pD "number")), .int many] = some (.lst ((seqX c n F (many - F.length)).map (pD kind))) := by
  have e0 : env0 6 [.lst (F.map (pD kind)), .lst ((facs c n).map (pD "number")), .int many] = [some (.lst (F.map (pD kind)), .fz), some (.lst ((facs c n).map (pD "number")), .fz), some (.int many, .fz), none, none, none] := rfl
  have hs : dSetO 3 (dMap gList (dVar 0)) [some (.lst (F.map (pD kind)), .fz), some (.lst ((facs c n).map (pD "number")), .fz), some (.int many, .fz), none, none, none] = some (.nx (cen c n kind (.lst (F.map (pD kind))) many (seqX c n F 0) none none)) := rfl
  obtain ⟨t, x, hw⟩ := c_while (kind := kind) (fs := .lst (F.map (pD kind))) (many := many) h hn h1 hv hl hD (j := many - F.length) (k := 0) (fuel := 1000) (t := none) (x := none) rfl (by omega)
  rw [Nat.zero_add] at hw
  have hr : dFrz 3 (dRet (dVar 3)) (cen c n kind (.lst (F.map (pD kind))) many (seqX c n F (many - F.length)) t x) = some (.rt (.lst ((seqX c n F (many - F.length)).map (pD kind)))) := rfl
  refine runD_rt (e0 ▸ ?_)
  rw [d_con]
  exact (dSeq_nx hs).trans ((dSeq_nx hw).trans hr)
end
end Pd73

/-! k73, mathematics: len, [], degree, used_letters. -/
namespace Pd73
open PySem PySem.Spec PyProof.Rows L2 Pd

theorem Poly_len (kind : Str) (l : PL) : m_Poly___len__ [pD kind l] = some (.int l.length) := by
  have e0 : env0 1 [pD kind l] = [some (pD kind l, .fz)] := rfl
  have q := f_terms (g := dVar 0) (env := [some (pD kind l, .fz)]) (kind := kind) (l := l) rfl
  refine runD_rt (e0 ▸ ?_)
  refine dRet_of ?_
  show dMap gLen _ _ = _
  simp only [dMap, q, gLen, dks_length]
theorem Poly_get (kind : Str) (l : PL) (k : KY) : m_Poly___getitem__ [pD kind l, kD k] = some (rD ((look k l).getD 0)) := by
  have e0 : env0 2 [pD kind l, kD k] = [some (pD kind l, .fz), some (kD k, .fz)] := rfl
  have q := f_co (g := dVar 0) (env := [some (pD kind l, .fz), some (kD k, .fz)]) (kind := kind) (l := l) rfl
  have hr := dMk1 (h := dC (.int 0)) (env := [some (pD kind l, .fz), some (kD k, .fz)]) (i := 0) rfl
  have h0 : ((0 : Int) : Rat) = 0 := rfl
  rw [h0] at hr
  have v1 : dVar 1 [some (pD kind l, .fz), some (kD k, .fz)] = some (kD k) := rfl
  refine runD_rt (e0 ▸ ?_)
  refine dRet_of ?_
  show dDGetOr _ _ _ _ = _
  simp only [dDGetOr, q, v1, hr, tkey_kD, getK_eq]
  cases look k l <;> rfl
theorem dLc_of {vs : List Nat} {tt : Tgt} {it : DPs} {c : DT} {f : DP} {env : DEnv} {l o : List D} (h : it env = some l) (hl : l.length ≤ smallL) (hc : compL tt c f l (wipeE env vs) = some o) : dLc vs tt it c f env = some (.lst o) := by
  unfold dLc
  rw [h]
  simp only [if_pos hl, hc, Option.map_some]
theorem dIt_tup {f : DP} {env : DEnv} {l : List D} (h : f env = some (.tup l)) : dIt f env = some l := by
  unfold dIt
  rw [h]
theorem dIt_lst {f : DP} {env : DEnv} {l : List D} (h : f env = some (.lst l)) : dIt f env = some l := by
  unfold dIt
  rw [h]
/-- keys of moderate size -/
def KOk (l : PL) : Prop := ∀ e ∈ l, e.1.1.length ≤ smallL ∧ (flat e.1).length ≤ smallL
theorem conts {kind : Str} {l : PL} (hk : KOk l) (env2 : DEnv) (h2 : (env2.set 1 (some (kD ([], tx []), .fz)))[1]? ≠ none) : compL (.nm 1) dYes (dCall 1 m_content_of [] (dCons (dVar 1) dNil)) (dks l) env2 = some ((l.map fun e => content e.1).map D.str) := by
  have e1 : dks l = l.map fun e => kD e.1 := rfl
  rw [e1, List.map_map]
  refine compL_map (α := KY × Rat) (enc := fun e => kD e.1) fun e he => ?_
  have hlen : 1 < env2.length := by
    have := h2
    rw [List.getElem?_set] at this
    by_cases q : 1 < env2.length
    · exact q
    · simp [q] at this
  have v : dVar 1 (env2.set 1 (some (kD e.1, .fz))) = some (kD e.1) := by
    unfold dVar
    rw [List.getElem?_set_self hlen]
  have ha : dCons (dVar 1) dNil (env2.set 1 (some (kD e.1, .fz))) = some [kD e.1] := dCons_of v rfl
  exact (dCall_of (n := 1) (m := m_content_of) (dd := []) ha rfl).trans (content_eq (hk e he).1 (hk e he).2)

/-! ### degree -/
theorem maxOf_int (x : Int) (l : List Int) : (∀ y ∈ x :: l, y ≤ PySem.W.maxOf x l) ∧ PySem.W.maxOf x l ∈ x :: l := by
  unfold PySem.W.maxOf
  induction l generalizing x with
  | nil => simp
  | cons y l ih =>
    rw [List.foldl_cons]
    obtain ⟨h1, h2⟩ := ih (if PySem.W.DatumOrd.lt x y = true then y else x)
    have hlt : PySem.W.DatumOrd.lt x y = decide (x < y) := rfl
    rw [hlt] at h1 h2 ⊢
    by_cases q : x < y
    · simp only [q, decide_true, if_true] at h1 h2 ⊢
      refine ⟨fun z hz => ?_, List.mem_cons_of_mem _ h2⟩
      have hy := h1 y List.mem_cons_self
      rcases List.mem_cons.mp hz with w | w
      · omega
      · exact h1 z w
    · simp only [q, decide_false] at h1 h2 ⊢
      refine ⟨fun z hz => ?_, ?_⟩
      · have hx := h1 x List.mem_cons_self
        rcases List.mem_cons.mp hz with w | w
        · rw [w]; exact hx
        · rcases List.mem_cons.mp w with u | u
          · rw [u]; simp at hx ⊢; omega
          · exact h1 z (List.mem_cons_of_mem _ u)
      · rcases List.mem_cons.mp h2 with w | w
        · rw [w]; exact List.mem_cons_self
        · exact List.mem_cons_of_mem _ (List.mem_cons_of_mem _ w)
theorem intsD_map (l : List Int) : intsD (l.map D.int) = some l := by
  induction l with
  | nil => rfl
  | cons x l ih => rw [List.map_cons, intsD, ih]
end Pd73

/-! k73, mathematics: degree, used_letters, only_letter, check_size. -/
namespace Pd73
open PySem PySem.Spec PyProof.Rows L2 Pd

theorem deg_comp {kind : Str} {l : PL} (hk : KOk l) (env2 : DEnv) (hlen : 1 < env2.length) : compL (.nm 1) dYes (dMap gLen (dCall 1 m_content_of [] (dCons (dVar 1) dNil))) (dks l) env2 = some ((l.map fun e => ((flat e.1).length : Int)).map D.int) := by
  have e1 : dks l = l.map fun e => kD e.1 := rfl
  rw [e1, List.map_map]
  refine compL_map (α := KY × Rat) (enc := fun e => kD e.1) fun e he => ?_
  have v : dVar 1 (env2.set 1 (some (kD e.1, .fz))) = some (kD e.1) := by
    unfold dVar
    rw [List.getElem?_set_self hlen]
  have ha : dCons (dVar 1) dNil (env2.set 1 (some (kD e.1, .fz))) = some [kD e.1] := dCons_of v rfl
  have hc := (dCall_of (n := 1) (m := m_content_of) (dd := []) ha rfl).trans (content_eq (hk e he).1 (hk e he).2)
  unfold dMap
  rw [hc]
  simp only [gLen]
  rw [if_pos (by rw [content_len]; exact (hk e he).2), content_len]
  rfl
theorem Poly_degree {kind : Str} {l : PL} (hk : KOk l) (hl : l.length ≤ smallL) : ∃ d : Nat, m_Poly_degree [pD kind l] = some (.int d) ∧ (∀ e ∈ l, (flat e.1).length ≤ d) ∧ (l = [] → d = 0) ∧ (l ≠ [] → ∃ e ∈ l, (flat e.1).length = d) := by
  have e0 : env0 2 [pD kind l] = [some (pD kind l, .fz), none] := rfl
  have q := dIt_tup (f_terms (g := dVar 0) (env := [some (pD kind l, .fz), none]) (kind := kind) (l := l) rfl)
  have hc := deg_comp (kind := kind) hk [some (pD kind l, .fz), none] (by simp)
  have hlc := dLc_of (vs := [1]) q (by rw [dks_length]; exact hl) hc
  have run : ∀ d : D, gMinT true ((l.map fun e => ((flat e.1).length : Int)).map D.int) (.int 0) = some d → m_Poly_degree [pD kind l] = some d := fun d hd => by
    refine runD_rt (e0 ▸ ?_)
    refine dRet_of ?_
    show dMinT true _ _ _ = _
    unfold dMinT
    rw [hlc]
    exact hd
  cases l with
  | nil => exact ⟨0, run _ rfl, (fun e h => by cases h), (fun _ => rfl), fun h => absurd rfl h⟩
  | cons e l =>
    have hi := intsD_map (((e :: l).map fun e => ((flat e.1).length : Int)))
    obtain ⟨m1, m2⟩ := maxOf_int ((flat e.1).length : Int) (l.map fun e => ((flat e.1).length : Int))
    have hm := run (.int (PySem.W.maxOf ((flat e.1).length : Int) (l.map fun e => ((flat e.1).length : Int)))) (by
      rw [List.map_cons, List.map_cons] at hi ⊢
      simp only [gMinT]
      have hs : strsD (D.int ((flat e.1).length : Int) :: (l.map fun e => ((flat e.1).length : Int)).map D.int) = none := rfl
      rw [hs, hi]
      rfl)
    generalize PySem.W.maxOf ((flat e.1).length : Int) (l.map fun e => ((flat e.1).length : Int)) = M at m1 m2 hm
    have m2' : M ∈ (e :: l).map fun e => ((flat e.1).length : Int) := m2
    obtain ⟨x, hx, hxe⟩ := List.mem_map.mp m2'
    refine ⟨(flat x.1).length, by rw [hm, ← hxe], fun y hy => ?_, (fun h => by cases h), fun _ => ⟨x, hx, rfl⟩⟩
    have := m1 ((flat y.1).length : Int) (List.mem_map.mpr ⟨y, hy, rfl⟩ : ((flat y.1).length : Int) ∈ (e :: l).map fun e => ((flat e.1).length : Int))
    omega

/-! ### used_letters -/
def upL (cs : List Nat) : List Str := cs.foldl (fun l c => addS l (PySem.Froz.sing c)) []
def ltxt (l : PL) : List Nat := l.flatMap fun e => (content e.1).cps.toList
def letters (l : PL) : Str := tx (((upL (ltxt l)).mergeSort strLe).flatMap fun s => s.cps.toList)
theorem upTo_all (cs : List Nat) : Pd.upTo (tx cs) (tx cs).cps.size = upL cs := by
  unfold Pd.upTo upL
  simp [tx]
theorem lens_flat : ∀ l : List Str, (l.map (·.length)).sum = (l.flatMap fun s => s.cps.toList).length := by
  intro l
  induction l with
  | nil => rfl
  | cons x l ih => rw [List.map_cons, List.sum_cons, ih, List.flatMap_cons, List.length_append]; simp [Str.length]
theorem gJoin_nil {l : List Str} (h : (l.flatMap fun s => s.cps.toList).length ≤ smallL) : gJoin (Str.ofString "") (l.map D.str) = some (.str (tx (l.flatMap fun s => s.cps.toList))) := by
  have lit0 : (Str.ofString "").length = 0 := rfl
  unfold gJoin
  rw [strsD_map]
  simp only
  rw [if_pos (by rw [lens_flat, lit0]; omega), join_nil]
theorem used_letters_eq {kind : Str} {l : PL} (hk : KOk l) (hl : l.length ≤ smallL) (ht : (ltxt l).length ≤ smallL) (hu : (upL (ltxt l)).length < 4000) (hz : (((upL (ltxt l)).mergeSort strLe).flatMap fun s => s.cps.toList).length ≤ smallL) :
    m_Poly_used_letters [pD kind l] = some (.str (letters l)) := by
  have e0 : env0 2 [pD kind l] = [some (pD kind l, .fz), none] := rfl
  have q := dIt_tup (f_terms (g := dVar 0) (env := [some (pD kind l, .fz), none]) (kind := kind) (l := l) rfl)
  have hc := conts (kind := kind) hk [some (pD kind l, .fz), none] (by simp)
  have hlc := dLc_of (vs := [1]) q (by rw [dks_length]; exact hl) hc
  have e2 : ((l.map fun e => content e.1).flatMap fun s => s.cps.toList) = ltxt l := by
    unfold ltxt
    rw [List.flatMap_map]
  have j1 : dJoin (dC (.str "")) (dLc [1] (.nm 1) (dIt (dFld 1 "terms" (dVar 0))) dYes (dCall 1 m_content_of [] (dCons (dVar 1) dNil))) [some (pD kind l, .fz), none] = some (.str (tx (ltxt l))) := by
    have : dC (.str "") [some (pD kind l, .fz), none] = some (.str "") := rfl
    unfold dJoin
    rw [this, hlc]
    simp only
    rw [gJoin_nil (by rw [e2]; exact ht), e2]
  have j2 : dSortSet (dJoin (dC (.str "")) (dLc [1] (.nm 1) (dIt (dFld 1 "terms" (dVar 0))) dYes (dCall 1 m_content_of [] (dCons (dVar 1) dNil)))) [some (pD kind l, .fz), none] = some (.lst (((upL (ltxt l)).mergeSort strLe).map .str)) := by
    unfold dSortSet
    rw [j1]
    simp only
    rw [if_pos (by rw [upTo_all]; exact hu)]
    unfold sortedSet
    rw [upTo_all]
    rfl
  refine runD_rt (e0 ▸ ?_)
  refine dRet_of ?_
  have : dC (.str "") [some (pD kind l, .fz), none] = some (.str "") := rfl
  show dJoin _ _ _ = _
  rw [dJoin, this]
  simp only [j2]
  exact gJoin_nil hz
theorem up_all {c : Nat} : ∀ {cs : List Nat}, (∀ x ∈ cs, x = c) → upL cs = if cs = [] then [] else [tx [c]]
  | [], _ => rfl
  | x :: cs, h => by
    have hx := h x List.mem_cons_self
    subst hx
    have z : ∀ {cs : List Nat}, (∀ y ∈ cs, y = x) → cs.foldl (fun l c => addS l (PySem.Froz.sing c)) [tx [x]] = [tx [x]] := by
      intro cs
      induction cs with
      | nil => intro _; rfl
      | cons y cs ih =>
        intro h
        have hy := h y List.mem_cons_self
        subst hy
        rw [List.foldl_cons]
        have : addS [tx [y]] (PySem.Froz.sing y) = [tx [y]] := by
          unfold addS
          rw [if_pos (by show tx [y] ∈ [tx [y]]; simp)]
        rw [this]
        exact ih fun w hw => h w (List.mem_cons_of_mem _ hw)
    show (x :: cs).foldl (fun l c => addS l (PySem.Froz.sing c)) [] = _
    rw [List.foldl_cons, if_neg (by simp)]
    have : addS [] (PySem.Froz.sing x) = [tx [x]] := by
      unfold addS
      rw [if_neg (by simp)]
      rfl
    rw [this]
    exact z fun w hw => h w (List.mem_cons_of_mem _ hw)
theorem letters_one {c : Nat} {l : PL} (h : ∀ x ∈ ltxt l, x = c) : letters l = if ltxt l = [] then tx [] else tx [c] := by
  unfold letters
  rw [up_all h]
  split
  · simp
  · simp [tx]
end Pd73

/-! k73, mathematics: only_letter, check_size. -/
namespace Pd73
open PySem PySem.Spec PyProof.Rows L2 Pd

theorem runX_rt {n : Nat} {s : DS} {ds : List D} {d : D} (h : s (env0 n ds) = some (.rt d)) : runX n s ds = some (.ok d) := by
  unfold runX
  rw [h]
theorem runX_rs {n : Nat} {s : DS} {ds : List D} {c : Nat} (h : s (env0 n ds) = some (.rs c)) : runX n s ds = some (.ex c) := by
  unfold runX
  rw [h]
theorem runX_nx {n : Nat} {s : DS} {ds : List D} {e : DEnv} (h : s (env0 n ds) = some (.nx e)) : runX n s ds = some (.ok .non) := by
  unfold runX
  rw [h]
theorem dSeq_rs {s t : DS} {env : DEnv} {c : Nat} (h : s env = some (.rs c)) : dSeq s t env = some (.rs c) := by
  unfold dSeq
  rw [h]
theorem dSeq_rt {s t : DS} {env : DEnv} {d : D} (h : s env = some (.rt d)) : dSeq s t env = some (.rt d) := by
  unfold dSeq
  rw [h]
theorem check_ok {n : Nat} (h1 : 1 ≤ n) (h2 : n ≤ 3) : m_check_size [.int n] = some (.ok .non) := by
  have : n = 1 ∨ n = 2 ∨ n = 3 := by omega
  rcases this with rfl | rfl | rfl <;> rfl
theorem check_bad {i : Int} (h : ¬ i ∈ [(1 : Int), 2, 3]) : m_check_size [.int i] = some (.ex 2) := by
  have e : dB (dBin (gInI true) (dVar 0) (dC (.tup [.int 1, .int 2, .int 3]))) [some (.int i, .fz)] = some true := by
    have : dBin (gInI true) (dVar 0) (dC (.tup [.int 1, .int 2, .int 3])) [some (.int i, .fz)] = some (.bl (xor true (decide (i ∈ [(1 : Int), 2, 3])))) := rfl
    rw [dB_of this, decide_eq_false h]
    rfl
  exact runX_rs (n := 1) (s := d_check_size) (ds := [.int i]) (dIf_t e)
theorem used_meth {g : DP} {env : DEnv} {kind : Str} {l : PL} {o : D} (hg : g env = some (pD kind l)) (hm : m_Poly_used_letters [pD kind l] = some o) : dMeth 1 "used_letters" 1 m_Poly_used_letters [] g dNil env = some o := by
  rw [pD_obj] at hg hm
  have hn : ¬ (Str.ofString "used_letters") ∈ [Str.ofString "kind", Str.ofString "coefficients", Str.ofString "terms"] := by decide
  simp only [dMeth, hg, hn, not_false_eq_true, and_self, if_true, dNil, List.append_nil, List.length_cons, List.length_nil, Nat.zero_add, hm]
theorem only_letter_ok {kind : Str} {l : PL} {t : Str} (hm : m_Poly_used_letters [pD kind l] = some (.str t)) (ht : t.length ≤ 1) : m_only_letter [pD kind l] = some (.ok (.str t)) := by
  have e0 : env0 2 [pD kind l] = [some (pD kind l, .fz), none] := rfl
  have h1 := dSet_of (i := 1) (used_meth (g := dVar 0) (env := [some (pD kind l, .fz), none]) rfl hm)
  have hc : dB (dBin (gIB fun i j => decide (j < i)) (dMap gLen (dVar 1)) (dC (.int 1))) [some (pD kind l, .fz), some (.str t, .fz)] = some false := by
    have hl : dMap gLen (dVar 1) [some (pD kind l, .fz), some (.str t, .fz)] = some (.int t.length) := by
      show gLen (.str t) = _
      simp only [gLen]
      rw [if_pos (by have : smallL = 100000 := rfl; omega)]
    have : dBin (gIB fun i j => decide (j < i)) (dMap gLen (dVar 1)) (dC (.int 1)) [some (pD kind l, .fz), some (.str t, .fz)] = some (.bl (decide ((1 : Int) < t.length))) := (dBin_of hl (y := .int 1) rfl).trans rfl
    rw [dB_of this]
    congr 1
    exact decide_eq_false (by omega)
  refine runX_rt (e0 ▸ ?_)
  exact (dSeq_nx h1).trans ((dSeq_nx (dIf_f hc)).trans (dRet_of rfl))
theorem only_letter_bad {kind : Str} {l : PL} {t : Str} (hm : m_Poly_used_letters [pD kind l] = some (.str t)) (ht : 1 < t.length) (hs : t.length ≤ smallL) : m_only_letter [pD kind l] = some (.ex 3) := by
  have e0 : env0 2 [pD kind l] = [some (pD kind l, .fz), none] := rfl
  have h1 := dSet_of (i := 1) (used_meth (g := dVar 0) (env := [some (pD kind l, .fz), none]) rfl hm)
  have hc : dB (dBin (gIB fun i j => decide (j < i)) (dMap gLen (dVar 1)) (dC (.int 1))) [some (pD kind l, .fz), some (.str t, .fz)] = some true := by
    have hl : dMap gLen (dVar 1) [some (pD kind l, .fz), some (.str t, .fz)] = some (.int t.length) := by
      show gLen (.str t) = _
      simp only [gLen]
      rw [if_pos hs]
    have : dBin (gIB fun i j => decide (j < i)) (dMap gLen (dVar 1)) (dC (.int 1)) [some (pD kind l, .fz), some (.str t, .fz)] = some (.bl (decide ((1 : Int) < t.length))) := (dBin_of hl (y := .int 1) rfl).trans rfl
    rw [dB_of this]
    congr 1
    exact decide_eq_true (by omega)
  refine runX_rs (e0 ▸ ?_)
  have h2 : dIf (dB (dBin (gIB fun i j => decide (j < i)) (dMap gLen (dVar 1)) (dC (.int 1)))) (dRaise 3) dNext [some (pD kind l, .fz), some (.str t, .fz)] = some (.rs 3) := dIf_t hc
  exact (dSeq_nx h1).trans (dSeq_rs h2)
end Pd73

/-! k73, mathematics: reduce_one: its factors, traces, powers. -/
namespace Pd73
open PySem PySem.Spec PyProof.Rows L2 Pd

section
variable {c n : Nat}
def trs (c n : Nat) : List PL := (List.range n).map fun i => trp c (i + 1)
def lps (c n : Nat) : List PL := (List.range n).map fun i => lpp c i
theorem pow_le' {a b k : Nat} (h : a ≤ b) : a ^ k ≤ b ^ k := Nat.pow_le_pow_left h k
theorem good_up1 {v d : Nat} {l : PL} (h : Good c n v d 1 1 l) : Good c n v d (6 ^ d) (54 ^ d) l := by
  have := h.up (6 ^ d) (Nat.pow_pos (by decide))
  rw [Nat.one_mul] at this
  exact this.mono (pow_le' (by decide))
theorem goodX_trs (c n : Nat) : GoodX c n 0 1 (trs c n) := ⟨fun i hi => by
  have hi' : i < n := by simpa [trs] using hi
  have e : (trs c n).getD i [] = trp c (i + 1) := by
    unfold trs
    rw [List.getD_eq_getElem?_getD, List.getElem?_map, List.getElem?_range hi']
    rfl
  rw [e, Nat.add_comm 1 i]
  exact good_up1 (good_tr c (by omega) (by omega))⟩
theorem goodX_lps (c n : Nat) : GoodX c n (n - 1) 0 (lps c n) := ⟨fun i hi => by
  have hi' : i < n := by simpa [lps] using hi
  have e : (lps c n).getD i [] = lpp c i := by
    unfold lps
    rw [List.getD_eq_getElem?_getD, List.getElem?_map, List.getElem?_range hi']
    rfl
  rw [e, Nat.zero_add]
  exact good_up1 (good_lp c (by omega))⟩
theorem trs_len : (trs c n).length = n := by simp [trs]
theorem lps_len : (lps c n).length = n := by simp [lps]
/-- factors[at - 1] -/
theorem fac_eq {i : Nat} {env : DEnv} (hi : i + 1 ≤ 3) (h2 : env[2]? = some (some (.str (xs c 1), .fz))) (h9 : env[9]? = some (some (.int ((i + 1 : Nat) : Int), .fz))) :
    dMeth 1 "scaled" 2 m_Poly_scaled [] (dCall 2 m_elementary [] (dCons (dVar 9) (dCons (dVar 2) dNil))) (dCons (dMake 3 m_Ratio___init___1 [.int 1] (dCons (dIfE (dTruI (dBin (gI Builtin.bitAnd) (dVar 9) (dC (.int 1)))) (dC (.int 1)) (dNeg (dC (.int 1)))) dNil)) dNil) env = some (pD "number" (fac c (i + 1))) := by
  have v9 : dVar 9 env = some (.int ((i + 1 : Nat) : Int)) := by unfold dVar; rw [h9]
  have v2 : dVar 2 env = some (.str (xs c 1)) := by unfold dVar; rw [h2]
  have he : dCall 2 m_elementary [] (dCons (dVar 9) (dCons (dVar 2) dNil)) env = some (pD "number" (ele c (i + 1))) :=
    (dCall_of (n := 2) (m := m_elementary) (dd := []) (as := [.int ((i + 1 : Nat) : Int), .str (xs c 1)]) (dCons_of v9 (dCons_of v2 rfl)) rfl).trans (elementary_eq (c := c) hi)
  have ht : dTruI (dBin (gI Builtin.bitAnd) (dVar 9) (dC (.int 1))) env = some (decide ((i + 1) % 2 = 1)) := by
    have hb : dBin (gI Builtin.bitAnd) (dVar 9) (dC (.int 1)) env = some (.int (Builtin.bitAnd ((i + 1 : Nat) : Int) 1)) := (dBin_of v9 (y := .int 1) rfl).trans rfl
    unfold dTruI
    rw [hb]
    show some (Builtin.bitAnd ((i + 1 : Nat) : Int) 1 != 0) = _
    rw [bit1]
  have g := good_ele (c := c) (n := 3) (by decide) hi
  have hm : 6 ^ (i + 1) < 2 ^ 4000 := pow_lt _ _ (by omega) (by decide)
  have hb : 18 ^ (i + 1) < 2 ^ 4000 := pow_lt _ _ (by omega) (by decide)
  unfold fac
  by_cases q : (i + 1) % 2 = 1
  · have hi1 : dIfE (dTruI (dBin (gI Builtin.bitAnd) (dVar 9) (dC (.int 1)))) (dC (.int 1)) (dNeg (dC (.int 1))) env = some (.int 1) := by
      unfold dIfE
      rw [ht, decide_eq_true q]
      rfl
    have hr := dMk1 hi1
    have h11 : ((1 : Int) : Rat) = 1 := rfl
    rw [h11] at hr
    rw [if_pos q]
    exact meth_scaled he hr (g.scl_eq (kind := "number") (by decide) (by decide) (by omega) hm hb ok_one)
  · have hi1 : dIfE (dTruI (dBin (gI Builtin.bitAnd) (dVar 9) (dC (.int 1)))) (dC (.int 1)) (dNeg (dC (.int 1))) env = some (.int (-1)) := by
      unfold dIfE
      rw [ht, decide_eq_false q]
      rfl
    have hr := dMk1 hi1
    have h11 : ((-1 : Int) : Rat) = -1 := rfl
    rw [h11] at hr
    rw [if_neg q]
    exact meth_scaled he hr (g.scl_eq (kind := "number") (by decide) (by decide) (by omega) hm hb ok_neg1)
theorem rg_size {g : DP} {env : DEnv} (hn : n ≤ 3) (h : g env = some (.int n)) : dRg2 (dCons (dC (.int 1)) (dCons (dBin gAdd g (dC (.int 1))) dNil)) env = some ((List.range n).map fun x => D.int ((x + 1 : Nat) : Int)) := by
  have hb : dBin gAdd g (dC (.int 1)) env = some (.int ((n : Int) + 1)) := (dBin_of h (y := .int 1) rfl).trans rfl
  have : dCons (dC (.int 1)) (dCons (dBin gAdd g (dC (.int 1))) dNil) env = some [.int 1, .int ((n : Int) + 1)] := dCons_of rfl (dCons_of hb rfl)
  unfold dRg2
  rw [this]
  simp only
  rw [if_pos ⟨by omega, by omega⟩, rangeD1]
theorem get_set_ne {env : DEnv} {i j : Nat} {x : Option (D × Fl)} (h : i ≠ j) : (env.set i x)[j]? = env[j]? := List.getElem?_set_ne h
theorem wipe1 (env : DEnv) (i : Nat) : wipeE env [i] = env.set i none := rfl
/-- the list of the factors -/
theorem facs_eq {env : DEnv} (hn : n ≤ 3) (hl : 9 < env.length) (h0 : env[0]? = some (some (.int n, .fz))) (h2 : env[2]? = some (some (.str (xs c 1), .fz))) :
    dLc [9] (.nm 9) (dRg2 (dCons (dC (.int 1)) (dCons (dBin gAdd (dVar 0) (dC (.int 1))) dNil))) dYes (dMeth 1 "scaled" 2 m_Poly_scaled [] (dCall 2 m_elementary [] (dCons (dVar 9) (dCons (dVar 2) dNil))) (dCons (dMake 3 m_Ratio___init___1 [.int 1] (dCons (dIfE (dTruI (dBin (gI Builtin.bitAnd) (dVar 9) (dC (.int 1)))) (dC (.int 1)) (dNeg (dC (.int 1)))) dNil)) dNil)) env = some (.lst ((facs c n).map (pD "number"))) := by
  have hr := rg_size (n := n) (g := dVar 0) (env := env) hn (by unfold dVar; rw [h0])
  refine dLc_of hr (by simp; have : smallL = 100000 := rfl; omega) ?_
  unfold facs
  rw [List.map_map]
  refine compL_map fun i hi => ?_
  rw [List.mem_range] at hi
  rw [wipe1]
  refine fac_eq (by omega) ?_ ?_
  · rw [get_set_ne (by decide), get_set_ne (by decide)]; exact h2
  · rw [List.getElem?_set_self (by simpa using hl)]
theorem trs_eq {env : DEnv} (hn : n ≤ 3) (hl : 9 < env.length) (h0 : env[0]? = some (some (.int n, .fz))) (h2 : env[2]? = some (some (.str (xs c 1), .fz))) :
    dLc [9] (.nm 9) (dRg2 (dCons (dC (.int 1)) (dCons (dBin gAdd (dVar 0) (dC (.int 1))) dNil))) dYes (dCall 2 m_power_trace [] (dCons (dVar 2) (dCons (dVar 9) dNil))) env = some (.lst ((trs c n).map (pD "number"))) := by
  have hr := rg_size (n := n) (g := dVar 0) (env := env) hn (by unfold dVar; rw [h0])
  refine dLc_of hr (by simp; have : smallL = 100000 := rfl; omega) ?_
  unfold trs
  rw [List.map_map]
  refine compL_map fun i hi => ?_
  rw [List.mem_range] at hi
  rw [wipe1]
  have v2 : dVar 2 ((env.set 9 none).set 9 (some (.int ((i + 1 : Nat) : Int), .fz))) = some (.str (xs c 1)) := by
    unfold dVar
    rw [get_set_ne (by decide), get_set_ne (by decide), h2]
  have v9 : dVar 9 ((env.set 9 none).set 9 (some (.int ((i + 1 : Nat) : Int), .fz))) = some (.int ((i + 1 : Nat) : Int)) := by
    unfold dVar
    rw [List.getElem?_set_self (by simpa using hl)]
  exact (dCall_of (n := 2) (m := m_power_trace) (dd := []) (as := [.str (xs c 1), .int ((i + 1 : Nat) : Int)]) (dCons_of v2 (dCons_of v9 rfl)) rfl).trans (power_trace_eq (by omega))
theorem lps_eq {env : DEnv} (hn : n ≤ 3) (hl : 9 < env.length) (h0 : env[0]? = some (some (.int n, .fz))) (h2 : env[2]? = some (some (.str (xs c 1), .fz))) :
    dLc [9] (.nm 9) (dRg1 (dCons (dVar 0) dNil)) dYes (dCall 2 m_letter_power [] (dCons (dVar 2) (dCons (dVar 9) dNil))) env = some (.lst ((lps c n).map (pD "matrix"))) := by
  have hr : dRg1 (dCons (dVar 0) dNil) env = some (nums n) := by
    have : dCons (dVar 0) dNil env = some [.int n] := dCons_of (by unfold dVar; rw [h0]) rfl
    unfold dRg1
    rw [this]
    simp only
    rw [if_pos ⟨by omega, by omega⟩, rangeD0]
  refine dLc_of hr (by simp [nums]; have : smallL = 100000 := rfl; omega) ?_
  unfold lps nums
  rw [List.map_map]
  refine compL_map fun i hi => ?_
  rw [List.mem_range] at hi
  rw [wipe1]
  have v2 : dVar 2 ((env.set 9 none).set 9 (some (.int ((i : Nat) : Int), .fz))) = some (.str (xs c 1)) := by
    unfold dVar
    rw [get_set_ne (by decide), get_set_ne (by decide), h2]
  have v9 : dVar 9 ((env.set 9 none).set 9 (some (.int ((i : Nat) : Int), .fz))) = some (.int ((i : Nat) : Int)) := by
    unfold dVar
    rw [List.getElem?_set_self (by simpa using hl)]
  exact (dCall_of (n := 2) (m := m_letter_power) (dd := []) (as := [.str (xs c 1), .int ((i : Nat) : Int)]) (dCons_of v2 (dCons_of v9 rfl)) rfl).trans (letter_power_eq (by omega))
end
end Pd73

/-! k73, mathematics: reduce_one: the product of a term. -/
namespace Pd73
open PySem PySem.Spec PyProof.Rows L2 Pd

section
variable (c n : Nat)
def Tq (i : Nat) : PL := (seqX c n (trs c n) i).getD i []
def Wq (i : Nat) : PL := (seqX c n (lps c n) i).getD i []
variable {c n}
theorem seq_at {F : List PL} {i k : Nat} (h1 : 1 ≤ F.length) (hi : i < F.length + k) : (seqX c n F k).getD i [] = (seqX c n F i).getD i [] := by
  rcases Nat.le_total i k with h | h
  · exact seqX_getD (by omega) h
  · exact (seqX_getD hi h).symm
theorem good_Tq {i : Nat} (hn : n ≤ 3) (h1 : 1 ≤ n) : Good c n 0 (i + 1) (6 ^ (i + 1)) (54 ^ (i + 1)) (Tq c n i) := by
  have h := good_seq (goodX_trs c n) hn h1 (by rw [trs_len]; exact Nat.le_refl _) i
  have := h.g i (by rw [seqX_len, trs_len]; omega)
  rw [Nat.add_comm 1 i] at this
  exact this
theorem good_Wq {i : Nat} (hn : n ≤ 3) (h1 : 1 ≤ n) : Good c n (n - 1) i (6 ^ i) (54 ^ i) (Wq c n i) := by
  have h := good_seq (goodX_lps c n) hn h1 (by rw [lps_len]; exact Nat.le_refl _) i
  have := h.g i (by rw [seqX_len, lps_len]; omega)
  rw [Nat.zero_add] at this
  exact this
variable (c n)
/-- what a term's product starts with -/
def mon0 (mk : Bool) (w : Nat) : PL := if mk then Wq c n w else con1 c
def mon (mk : Bool) (ns : List Nat) (w : Nat) : PL := ns.foldl (fun x j => mulL (Tq c n (j - 1)) x) (mon0 c n mk w)
variable {c n}
theorem good_fold (hn : n ≤ 3) (h1 : 1 ≤ n) : ∀ {ns : List Nat} {d : Nat} {x : PL}, (∀ j ∈ ns, 1 ≤ j) → Good c n (n - 1) d (6 ^ d) (54 ^ d) x → Good c n (n - 1) (ns.sum + d) (6 ^ (ns.sum + d)) (54 ^ (ns.sum + d)) (ns.foldl (fun x j => mulL (Tq c n (j - 1)) x) x) := by
  intro ns
  induction ns with
  | nil => intro d x _ h; simpa using h
  | cons j ns ih =>
    intro d x hj h
    have h1j := hj j List.mem_cons_self
    have g := (good_Tq (c := c) (i := j - 1) hn h1).mul h
    rw [show j - 1 + 1 = j by omega, ← Nat.pow_add, ← Nat.pow_add] at g
    have := ih (fun k hk => hj k (List.mem_cons_of_mem _ hk)) g
    rw [List.foldl_cons, List.sum_cons, show j + ns.sum + d = ns.sum + (j + d) by omega]
    exact this
theorem good_mon0 {mk : Bool} {w : Nat} (hn : n ≤ 3) (h1 : 1 ≤ n) (hw : mk = false → w = 0) : Good c n (n - 1) w (6 ^ w) (54 ^ w) (mon0 c n mk w) := by
  unfold mon0
  cases mk with
  | true => exact good_Wq hn h1
  | false =>
    have := hw rfl
    subst this
    exact good_con c n (n - 1)
theorem good_mon {mk : Bool} {ns : List Nat} {w : Nat} (hn : n ≤ 3) (h1 : 1 ≤ n) (hw : mk = false → w = 0) (hj : ∀ j ∈ ns, 1 ≤ j) : Good c n (n - 1) (ns.sum + w) (6 ^ (ns.sum + w)) (54 ^ (ns.sum + w)) (mon c n mk ns w) := good_fold hn h1 hj (good_mon0 hn h1 hw)

/-! ### the loop over a term's cycles -/
def bProd : DS := (dSet 10 (dBin (gOwn 1 m_Poly___mul__) (dBin gIx (dVar 4) (dBin (gI fun i j => i - j) (dMap gLen (dVar 11)) (dC (.int 1)))) (dVar 10)))
def ren (a0 a1 a2 a3 a4 a5 a6 a7 a8 a9 a10 a11 : Option (D × Fl)) : DEnv := [a0, a1, a2, a3, a4, a5, a6, a7, a8, a9, a10, a11]
theorem prod_loop {kind : Str} {k : Nat} {a0 a1 a2 a3 a5 a6 a7 a8 a9 : Option (D × Fl)} (hn : n ≤ 3) (h1 : 1 ≤ n) : ∀ {ns : List Nat} {d : Nat} {x : PL} {a11 : Option (D × Fl)}, (∀ j ∈ ns, 1 ≤ j ∧ j ≤ n + k) → ns.sum + d ≤ 20 → Good c n (n - 1) d (6 ^ d) (54 ^ d) x →
    ∃ b11, forL (.nm 11) bProd (ns.map fun j => .str (xs c j)) (ren a0 a1 a2 a3 (some (.lst ((seqX c n (trs c n) k).map (pD "number")), .fz)) a5 a6 a7 a8 a9 (some (pD kind x, .fz)) a11) =
      some (.nx (ren a0 a1 a2 a3 (some (.lst ((seqX c n (trs c n) k).map (pD "number")), .fz)) a5 a6 a7 a8 a9 (some (pD kind (ns.foldl (fun x j => mulL (Tq c n (j - 1)) x) x), .fz)) b11)) := by
  intro ns
  induction ns with
  | nil => intro d x a11 _ _ _; exact ⟨a11, rfl⟩
  | cons j ns ih =>
    intro d x a11 hj hs h
    rw [List.sum_cons] at hs
    obtain ⟨hj1, hj2⟩ := hj j List.mem_cons_self
    have gT := good_Tq (c := c) (i := j - 1) hn h1
    rw [show j - 1 + 1 = j by omega] at gT
    have g := gT.mul h
    rw [← Nat.pow_add, ← Nat.pow_add] at g
    have hm := gT.mul_eq (kind := kind) h hn (by omega) (by omega) (by rw [← Nat.pow_add]; exact pow_lt _ _ (by omega) (by decide)) (pow_lt _ _ (by omega) (by decide)) (pow_lt _ _ (by omega) (by decide)) (by rw [← Nat.pow_add]; exact pow_lt _ _ (by omega) (by decide))
    obtain ⟨b11, hl⟩ := ih (d := j + d) (x := mulL (Tq c n (j - 1)) x) (a11 := some (.str (xs c j), .fz)) (fun k hk => hj k (List.mem_cons_of_mem _ hk)) (by omega) g
    refine ⟨b11, ?_⟩
    have hlen : dMap gLen (dVar 11) (ren a0 a1 a2 a3 (some (.lst ((seqX c n (trs c n) k).map (pD "number")), .fz)) a5 a6 a7 a8 a9 (some (pD kind x, .fz)) (some (.str (xs c j), .fz))) = some (.int j) := by
      show gLen (.str (xs c j)) = _
      simp only [gLen, xs_len]
      rw [if_pos (by have : smallL = 100000 := rfl; omega)]
    have hix : dBin (gI fun i j => i - j) (dMap gLen (dVar 11)) (dC (.int 1)) (ren a0 a1 a2 a3 (some (.lst ((seqX c n (trs c n) k).map (pD "number")), .fz)) a5 a6 a7 a8 a9 (some (pD kind x, .fz)) (some (.str (xs c j), .fz))) = some (.int ((j - 1 : Nat) : Int)) := by
      refine (dBin_of hlen (y := .int 1) rfl).trans ?_
      show some (D.int ((j : Int) - 1)) = _
      congr 2
      omega
    have hget : ((seqX c n (trs c n) k).map (pD "number"))[j - 1]? = some (pD "number" (Tq c n (j - 1))) := by
      have hl := seqX_len c n (trs c n) k
      rw [trs_len] at hl
      have e := seq_at (c := c) (n := n) (F := trs c n) (i := j - 1) (k := k) (by rw [trs_len]; exact h1) (by rw [trs_len]; omega)
      unfold Tq
      rw [← e, List.getElem?_map, List.getElem?_eq_getElem (by omega), List.getD_eq_getElem?_getD, List.getElem?_eq_getElem (by omega)]
      rfl
    have hT : dBin gIx (dVar 4) (dBin (gI fun i j => i - j) (dMap gLen (dVar 11)) (dC (.int 1))) (ren a0 a1 a2 a3 (some (.lst ((seqX c n (trs c n) k).map (pD "number")), .fz)) a5 a6 a7 a8 a9 (some (pD kind x, .fz)) (some (.str (xs c j), .fz))) = some (pD "number" (Tq c n (j - 1))) :=
      (dBin_of (x := .lst ((seqX c n (trs c n) k).map (pD "number"))) rfl hix).trans (atI_nat hget)
    have hmul : dBin (gOwn 1 m_Poly___mul__) (dBin gIx (dVar 4) (dBin (gI fun i j => i - j) (dMap gLen (dVar 11)) (dC (.int 1)))) (dVar 10) (ren a0 a1 a2 a3 (some (.lst ((seqX c n (trs c n) k).map (pD "number")), .fz)) a5 a6 a7 a8 a9 (some (pD kind x, .fz)) (some (.str (xs c j), .fz))) = some (pD kind (mulL (Tq c n (j - 1)) x)) :=
      (dBin_of hT (y := pD kind x) rfl).trans (gOwn1.trans hm)
    have hb : bProd (ren a0 a1 a2 a3 (some (.lst ((seqX c n (trs c n) k).map (pD "number")), .fz)) a5 a6 a7 a8 a9 (some (pD kind x, .fz)) (some (.str (xs c j), .fz))) = some (.nx (ren a0 a1 a2 a3 (some (.lst ((seqX c n (trs c n) k).map (pD "number")), .fz)) a5 a6 a7 a8 a9 (some (pD kind (mulL (Tq c n (j - 1)) x), .fz)) (some (.str (xs c j), .fz)))) := dSet_of hmul
    have ht : tgtE (.nm 11) (.str (xs c j)) (ren a0 a1 a2 a3 (some (.lst ((seqX c n (trs c n) k).map (pD "number")), .fz)) a5 a6 a7 a8 a9 (some (pD kind x, .fz)) a11) = some (ren a0 a1 a2 a3 (some (.lst ((seqX c n (trs c n) k).map (pD "number")), .fz)) a5 a6 a7 a8 a9 (some (pD kind x, .fz)) (some (.str (xs c j), .fz))) := rfl
    rw [List.map_cons, forL]
    simp only [ht, hb]
    exact hl
end
end Pd73

/-! k73, mathematics: reduce_one: the sum over the terms. -/
namespace Pd73
open PySem PySem.Spec PyProof.Rows L2 Pd

/-- a polynomial of one letter, of degree at most 20 -/
structure InP (c : Nat) (mk : Bool) (K b : Nat) (l : PL) : Prop where
  can : Can l
  key : ∀ e ∈ l, ∃ ns w, e.1 = uk c ns w ∧ srt ns ∧ (∀ j ∈ ns, 1 ≤ j) ∧ (mk = false → w = 0) ∧ ns.sum + w ≤ 20
  fit : Fit K b l
  K0 : 0 < K
  len : l.length ≤ 4900
  hK : K * 6 ^ 20 < 2 ^ 4000
  hb : b * 54 ^ 20 < 2 ^ 4000
section
variable {c n : Nat} {mk : Bool} {K b : Nat} {l : PL}
/-- the lengths of a key's cycles, of its word -/
def cyc (k : KY) : List Nat := k.1.map (·.length)
def wrd (k : KY) : Nat := k.2.length
theorem cyc_uk (c : Nat) (ns : List Nat) (w : Nat) : cyc (uk c ns w) = ns := by
  unfold cyc uk
  rw [List.map_map]
  have : ((fun s : Str => s.length) ∘ xs c) = fun n => n := funext fun n => xs_len c n
  rw [this, List.map_id']
theorem wrd_uk (c : Nat) (ns : List Nat) (w : Nat) : wrd (uk c ns w) = w := xs_len c w
/-- one term reduced -/
def term (c n : Nat) (mk : Bool) (e : KY × Rat) : PL := canon (sclR e.2 (mon c n mk (cyc e.1) (wrd e.1)))
def red (c n : Nat) (mk : Bool) (tot l : PL) : PL := l.foldl (fun t e => sumL t (term c n mk e)) tot
theorem InP.term (h : InP c mk K b l) (hn : n ≤ 3) (h1 : 1 ≤ n) {e : KY × Rat} (he : e ∈ l) : ∃ d, d ≤ 20 ∧ Good c n (n - 1) d (K * 6 ^ 20) ((zz K e.2).natAbs * 54 ^ 20) (term c n mk e) := by
  obtain ⟨ns, w, ek, h2, h3, h4, h5⟩ := h.key e he
  refine ⟨ns.sum + w, h5, ?_⟩
  unfold Pd73.term
  rw [ek, cyc_uk, wrd_uk]
  have g := good_mon (c := c) (mk := mk) (ns := ns) (w := w) hn h1 h4 h3
  have g2 := g.scl h.K0 (h.fit.i e he) (Nat.le_refl _)
  have g3 := g2.up (6 ^ (20 - (ns.sum + w))) (Nat.pow_pos (by decide))
  rw [Nat.mul_assoc, ← Nat.pow_add, show ns.sum + w + (20 - (ns.sum + w)) = 20 by omega] at g3
  refine g3.mono ?_
  rw [Nat.mul_assoc]
  refine Nat.mul_le_mul_left _ ?_
  calc 54 ^ (ns.sum + w) * 6 ^ (20 - (ns.sum + w)) ≤ 54 ^ (ns.sum + w) * 54 ^ (20 - (ns.sum + w)) := Nat.mul_le_mul_left _ (pow_le' (by decide))
    _ = 54 ^ 20 := by rw [← Nat.pow_add, show ns.sum + w + (20 - (ns.sum + w)) = 20 by omega]
/-- a sum of short terms -/
structure Tot (c n : Nat) (m b k : Nat) (t : PL) : Prop where
  can : Can t
  fit : Fit m b t
  key : ∀ e ∈ t, ∃ ns w, e.1 = uk c ns w ∧ srt ns ∧ (∀ j ∈ ns, 1 ≤ j ∧ j ≤ n) ∧ w ≤ n - 1 ∧ ns.sum + w ≤ 20
theorem tot_nil (m : Nat) : Tot c n m 0 0 [] := ⟨Can.nil, fit_nil m, fun e h => by cases h⟩
/-- all keys up to the degree 20 -/
def KA (c : Nat) : List KY := (List.range 21).flatMap (KS c)
theorem KA_len (c : Nat) : (KA c).length = 4851 := by
  have h : ∀ r : List Nat, (r.flatMap (KS c)).length = r.length * 231 := fun r => by
    induction r with
    | nil => rfl
    | cons x r ih => rw [List.flatMap_cons, List.length_append, ih, KS_len, List.length_cons, Nat.succ_mul, Nat.add_comm]
  unfold KA
  rw [h, List.length_range]
theorem Tot.len {m b k : Nat} {t : PL} (h : Tot c n m b k t) (hn : n ≤ 3) : t.length ≤ 4851 := by
  have z : InK (KA c) t := ⟨h.can.nd, fun k hk => by
    obtain ⟨e, he, rfl⟩ := List.mem_map.mp hk
    obtain ⟨ns, w, e1, h1, h2, h3, h4⟩ := h.key e he
    rw [e1]
    exact List.mem_flatMap.mpr ⟨ns.sum + w, List.mem_range.mpr (by omega), mem_KS hn (by omega : n - 1 ≤ 2) h4 h1 h2 h3 rfl⟩⟩
  have := z.len
  rw [KA_len] at this
  exact this
theorem Tot.add {m b b' k d : Nat} {t s : PL} (h : Tot c n m b k t) (g : Good c n (n - 1) d m b' s) (hn : n ≤ 3) (hd : d ≤ 20) : Tot c n m (b + b') (k + 1) (sumL t s) := by
  have nd := acc_nodup (m := s) h.can.nd
  refine ⟨canon_can nd, fit_canon nd (fit_acc h.fit g.fit), fun e he => ?_⟩
  rcases acc_keys e.1 (canon_keys e.1 (List.mem_map.mpr ⟨e, he, rfl⟩)) with z | z
  · obtain ⟨x, hx, ex⟩ := List.mem_map.mp z
    rw [← ex]; exact h.key x hx
  · obtain ⟨x, hx, ex⟩ := List.mem_map.mp z
    obtain ⟨ns, w, e1, e2, e3, e4, e5⟩ := g.hom x hx
    rw [← ex]; exact ⟨ns, w, e1, e2, e3, e4, by omega⟩
theorem tot_red (h : InP c mk K b l) (hn : n ≤ 3) (h1 : 1 ≤ n) : ∀ {r : PL} {t : PL} {B k : Nat}, (∀ e ∈ r, e ∈ l) → Tot c n (K * 6 ^ 20) B k t → Tot c n (K * 6 ^ 20) (B + nr K r * 54 ^ 20) (k + r.length) (red c n mk t r) := by
  intro r
  induction r with
  | nil => intro t B k _ ht; simpa [nr, red] using ht
  | cons e r ih =>
    intro t B k he ht
    obtain ⟨d, hd, g⟩ := h.term hn h1 (he e List.mem_cons_self)
    have h2 := ih (fun x hx => he x (List.mem_cons_of_mem _ hx)) (ht.add g hn hd)
    have e1 : B + nr K (e :: r) * 54 ^ 20 = B + (zz K e.2).natAbs * 54 ^ 20 + nr K r * 54 ^ 20 := by rw [nr, Nat.add_mul, Nat.add_assoc]
    rw [e1, List.length_cons, show k + (r.length + 1) = k + 1 + r.length by omega]
    exact h2
/-- the functional of the reduced polynomial -/
theorem S_red (g : KY → Rat) (h : InP c mk K b l) (hn : n ≤ 3) (h1 : 1 ≤ n) : ∀ {r : PL} {t : PL} {B k : Nat}, (∀ e ∈ r, e ∈ l) → Tot c n (K * 6 ^ 20) B k t → S g (red c n mk t r) = S g t + S (fun k => S g (mon c n mk (cyc k) (wrd k))) r := by
  intro r
  induction r with
  | nil => intro t B k _ _; show S g t = S g t + 0; grind
  | cons e r ih =>
    intro t B k he ht
    have hm := he e List.mem_cons_self
    obtain ⟨d, hd, g2⟩ := h.term hn h1 hm
    obtain ⟨ns, w, ek, h2, h3, h4, h5⟩ := h.key e hm
    have gm := good_mon (c := c) (mk := mk) (ns := ns) (w := w) hn h1 h4 h3
    have e1 : S g (term c n mk e) = e.2 * S g (mon c n mk (cyc e.1) (wrd e.1)) := by
      unfold Pd73.term
      rw [ek, cyc_uk, wrd_uk]
      exact S_canscl g _ gm.can.nd
    show S g (red c n mk (sumL t (term c n mk e)) r) = _
    rw [ih (fun x hx => he x (List.mem_cons_of_mem _ hx)) (ht.add g2 hn hd), S_sum g ht.can.nd, e1]
    simp only [S]
    grind
end
end Pd73

/-! k73, mathematics: reduce_one: the loop over the terms. -/
namespace Pd73
open PySem PySem.Spec PyProof.Rows L2 Pd

section
variable {c n : Nat} {mk : Bool} {K b : Nat} {l : PL}
def kindOf (mk : Bool) : Str := if mk then "matrix" else "number"
/-- the powers: one, or 1, x, x^2, .. continued -/
def pwL (c n : Nat) (mk : Bool) (k : Nat) : D := if mk then .lst ((seqX c n (lps c n) k).map (pD "matrix")) else .lst [pD "number" (con1 c)]
theorem pw_get {w k : Nat} (h1 : 1 ≤ n) (hw : mk = false → w = 0) (hk : w < n + k) : gIx (pwL c n mk k) (.int w) = some (pD (kindOf mk) (mon0 c n mk w)) := by
  unfold pwL mon0 kindOf
  cases mk with
  | true =>
    have hl := seqX_len c n (lps c n) k
    rw [lps_len] at hl
    have e := seq_at (c := c) (n := n) (F := lps c n) (i := w) (k := k) (by rw [lps_len]; exact h1) (by rw [lps_len]; omega)
    have hg : ((seqX c n (lps c n) k).map (pD "matrix"))[w]? = some (pD "matrix" (Wq c n w)) := by
      unfold Wq
      rw [← e, List.getElem?_map, List.getElem?_eq_getElem (by omega), List.getD_eq_getElem?_getD, List.getElem?_eq_getElem (by omega)]
      rfl
    exact atI_nat hg
  | false =>
    have := hw rfl
    subst this
    rfl
def bTerm : DS := (dSeq (dSet 10 (dBin gIx (dVar 5) (dMap gLen (dVar 8)))) (dSeq (dFor (.nm 11) (dIt (dVar 7)) bProd) (dSet 6 (dBin (gOwn 1 m_Poly___add__) (dVar 6) (dMeth 1 "scaled" 2 m_Poly_scaled [] (dVar 10) (dCons (dSubO 1 m_Poly___getitem__ (dVar 1) (dTup (dCons (dVar 7) (dCons (dVar 8) dNil)))) dNil))))))
theorem term_step {kt kw B q : Nat} {t : PL} {e : KY × Rat} {a0 a2 a3 a9 x7 x8 x10 x11 : Option (D × Fl)} (h : InP c mk K b l) (hn : n ≤ 3) (h1 : 1 ≤ n) (he : e ∈ l) (hkt : ∀ j ∈ cyc e.1, j ≤ n + kt) (hkw : wrd e.1 < n + kw)
    (ht : Tot c n (K * 6 ^ 20) B q t) (hB : B + (zz K e.2).natAbs * 54 ^ 20 < 2 ^ 4000) (hq : q ≤ 100000) :
    ∃ y7 y8 y10 y11, tgtE (.tp [7, 8]) (kD e.1) (ren a0 (some (pD (kindOf mk) l, .fz)) a2 a3 (some (.lst ((seqX c n (trs c n) kt).map (pD "number")), .fz)) (some (pwL c n mk kw, .fz)) (some (pD (kindOf mk) t, .fz)) x7 x8 a9 x10 x11) = some (ren a0 (some (pD (kindOf mk) l, .fz)) a2 a3 (some (.lst ((seqX c n (trs c n) kt).map (pD "number")), .fz)) (some (pwL c n mk kw, .fz)) (some (pD (kindOf mk) t, .fz)) y7 y8 a9 x10 x11) ∧
      bTerm (ren a0 (some (pD (kindOf mk) l, .fz)) a2 a3 (some (.lst ((seqX c n (trs c n) kt).map (pD "number")), .fz)) (some (pwL c n mk kw, .fz)) (some (pD (kindOf mk) t, .fz)) y7 y8 a9 x10 x11) = some (.nx (ren a0 (some (pD (kindOf mk) l, .fz)) a2 a3 (some (.lst ((seqX c n (trs c n) kt).map (pD "number")), .fz)) (some (pwL c n mk kw, .fz)) (some (pD (kindOf mk) (sumL t (term c n mk e)), .fz)) y7 y8 a9 y10 y11)) := by
  obtain ⟨ns, w, ek, h2, h3, h4, h5⟩ := h.key e he
  rw [ek, cyc_uk] at hkt
  rw [ek, wrd_uk] at hkw
  obtain ⟨er, hr⟩ : ∃ r, r = e.2 := ⟨_, rfl⟩
  have ho : Ok e.2 := h.fit.ok h.K0 (by have := h.hK; exact Nat.lt_of_le_of_lt (Nat.le_mul_of_pos_right _ (by decide)) this) (by have := h.hb; exact Nat.lt_of_le_of_lt (Nat.le_mul_of_pos_right _ (by decide)) this) e he
  have g0 := good_mon0 (c := c) (mk := mk) (w := w) hn h1 h4
  have gm := good_mon (c := c) (mk := mk) (ns := ns) (w := w) hn h1 h4 h3
  obtain ⟨b11, hp⟩ := prod_loop (kind := kindOf mk) (k := kt) (a0 := a0) (a1 := some (pD (kindOf mk) l, .fz)) (a2 := a2) (a3 := a3) (a5 := some (pwL c n mk kw, .fz)) (a6 := some (pD (kindOf mk) t, .fz)) (a7 := some (.tup ((ns.map (xs c)).map .str), .fz)) (a8 := some (.str (xs c w), .fz)) (a9 := a9) hn h1 (ns := ns) (d := w) (x := mon0 c n mk w) (a11 := x11) (fun j hj => ⟨h3 j hj, hkt j hj⟩) h5 g0
  refine ⟨some (.tup ((ns.map (xs c)).map .str), .fz), some (.str (xs c w), .fz), some (pD (kindOf mk) (mon c n mk ns w), .fz), b11, by rw [ek]; rfl, ?_⟩
  have hlen : dMap gLen (dVar 8) (ren a0 (some (pD (kindOf mk) l, .fz)) a2 a3 (some (.lst ((seqX c n (trs c n) kt).map (pD "number")), .fz)) (some (pwL c n mk kw, .fz)) (some (pD (kindOf mk) t, .fz)) (some (.tup ((ns.map (xs c)).map .str), .fz)) (some (.str (xs c w), .fz)) a9 x10 x11) = some (.int w) := by
    show gLen (.str (xs c w)) = _
    simp only [gLen, xs_len]
    rw [if_pos (by have : smallL = 100000 := rfl; omega)]
  have s1 : dSet 10 (dBin gIx (dVar 5) (dMap gLen (dVar 8))) (ren a0 (some (pD (kindOf mk) l, .fz)) a2 a3 (some (.lst ((seqX c n (trs c n) kt).map (pD "number")), .fz)) (some (pwL c n mk kw, .fz)) (some (pD (kindOf mk) t, .fz)) (some (.tup ((ns.map (xs c)).map .str), .fz)) (some (.str (xs c w), .fz)) a9 x10 x11) = some (.nx (ren a0 (some (pD (kindOf mk) l, .fz)) a2 a3 (some (.lst ((seqX c n (trs c n) kt).map (pD "number")), .fz)) (some (pwL c n mk kw, .fz)) (some (pD (kindOf mk) t, .fz)) (some (.tup ((ns.map (xs c)).map .str), .fz)) (some (.str (xs c w), .fz)) a9 (some (pD (kindOf mk) (mon0 c n mk w), .fz)) x11)) :=
    dSet_of ((dBin_of (x := pwL c n mk kw) rfl hlen).trans (pw_get h1 h4 hkw))
  have hit : dIt (dVar 7) (ren a0 (some (pD (kindOf mk) l, .fz)) a2 a3 (some (.lst ((seqX c n (trs c n) kt).map (pD "number")), .fz)) (some (pwL c n mk kw, .fz)) (some (pD (kindOf mk) t, .fz)) (some (.tup ((ns.map (xs c)).map .str), .fz)) (some (.str (xs c w), .fz)) a9 (some (pD (kindOf mk) (mon0 c n mk w), .fz)) x11) = some (ns.map fun j => .str (xs c j)) := by
    have := dIt_tup (f := dVar 7) (env := (ren a0 (some (pD (kindOf mk) l, .fz)) a2 a3 (some (.lst ((seqX c n (trs c n) kt).map (pD "number")), .fz)) (some (pwL c n mk kw, .fz)) (some (pD (kindOf mk) t, .fz)) (some (.tup ((ns.map (xs c)).map .str), .fz)) (some (.str (xs c w), .fz)) a9 (some (pD (kindOf mk) (mon0 c n mk w), .fz)) x11)) (l := (ns.map (xs c)).map .str) rfl
    rw [this, List.map_map]
    rfl
  have s2 := (dFor_of (t := .nm 11) (b := bProd) hit).trans hp
  obtain ⟨E, hE⟩ : ∃ E, E = ren a0 (some (pD (kindOf mk) l, .fz)) a2 a3 (some (.lst ((seqX c n (trs c n) kt).map (pD "number")), .fz)) (some (pwL c n mk kw, .fz)) (some (pD (kindOf mk) t, .fz)) (some (.tup ((ns.map (xs c)).map .str), .fz)) (some (.str (xs c w), .fz)) a9 (some (pD (kindOf mk) (mon c n mk ns w), .fz)) b11 := ⟨_, rfl⟩
  have v10 : dVar 10 E = some (pD (kindOf mk) (mon c n mk ns w)) := by rw [hE]; rfl
  have v6 : dVar 6 E = some (pD (kindOf mk) t) := by rw [hE]; rfl
  have v1 : dVar 1 E = some (pD (kindOf mk) l) := by rw [hE]; rfl
  have vk : dTup (dCons (dVar 7) (dCons (dVar 8) dNil)) E = some (kD (uk c ns w)) := by rw [hE]; rfl
  have hget : dSubO 1 m_Poly___getitem__ (dVar 1) (dTup (dCons (dVar 7) (dCons (dVar 8) dNil))) E = some (rD e.2) := by
    have hg := Poly_get (kindOf mk) l (uk c ns w)
    have hl : look (uk c ns w) l = some e.2 := by rw [← ek]; exact mem_look h.can.nd he
    rw [hl] at hg
    rw [pD_obj] at v1 hg
    unfold dSubO
    rw [v1, vk]
    simp only [if_true]
    exact hg
  have hms := gm.scl_eq (kind := kindOf mk) hn (by omega) h5 (pow_lt _ _ (by omega) (by decide)) (pow_lt _ _ (by omega) (by decide)) ho
  have hsc := meth_scaled v10 hget hms
  obtain ⟨d, hd, gt⟩ := h.term hn h1 he
  have et : term c n mk e = canon (sclR e.2 (mon c n mk ns w)) := by unfold Pd73.term; rw [ek, cyc_uk, wrd_uk]
  have hlt := gt.len hn (by omega) hd
  have hadd := Poly_add (kind := kindOf mk) ht.can.nd gt.can.nd (Nat.mul_pos h.K0 (by decide)) h.hK ht.fit gt.fit hB (by have := ht.len hn; have : smallL = 100000 := rfl; omega)
  rw [et] at hadd
  have s3 : dSet 6 (dBin (gOwn 1 m_Poly___add__) (dVar 6) (dMeth 1 "scaled" 2 m_Poly_scaled [] (dVar 10) (dCons (dSubO 1 m_Poly___getitem__ (dVar 1) (dTup (dCons (dVar 7) (dCons (dVar 8) dNil)))) dNil))) E = some (.nx (E.set 6 (some (pD (kindOf mk) (sumL t (term c n mk e)), .fz)))) := by
    rw [et]
    exact dSet_of ((dBin_of v6 hsc).trans (gOwn1.trans hadd))
  rw [hE] at s3
  exact (dSeq_nx s1).trans ((dSeq_nx s2).trans s3)
end
end Pd73

/-! k73, mathematics: reduce_one. -/
namespace Pd73
open PySem PySem.Spec PyProof.Rows L2 Pd

section
variable {c n : Nat} {mk : Bool} {K b : Nat} {l : PL}
theorem terms_loop {kt kw : Nat} {a0 a2 a3 a9 : Option (D × Fl)} (h : InP c mk K b l) (hn : n ≤ 3) (h1 : 1 ≤ n) (hkt : ∀ e ∈ l, ∀ j ∈ cyc e.1, j ≤ n + kt) (hkw : ∀ e ∈ l, wrd e.1 < n + kw) :
    ∀ {r : PL} {t : PL} {B q : Nat} {x7 x8 x10 x11 : Option (D × Fl)}, (∀ e ∈ r, e ∈ l) → Tot c n (K * 6 ^ 20) B q t → B + nr K r * 54 ^ 20 < 2 ^ 4000 → q + r.length ≤ 100000 →
    ∃ y7 y8 y10 y11, forL (.tp [7, 8]) bTerm (dks r) (ren a0 (some (pD (kindOf mk) l, .fz)) a2 a3 (some (.lst ((seqX c n (trs c n) kt).map (pD "number")), .fz)) (some (pwL c n mk kw, .fz)) (some (pD (kindOf mk) t, .fz)) x7 x8 a9 x10 x11) =
      some (.nx (ren a0 (some (pD (kindOf mk) l, .fz)) a2 a3 (some (.lst ((seqX c n (trs c n) kt).map (pD "number")), .fz)) (some (pwL c n mk kw, .fz)) (some (pD (kindOf mk) (red c n mk t r), .fz)) y7 y8 a9 y10 y11)) := by
  intro r
  induction r with
  | nil => intro t B q x7 x8 x10 x11 _ _ _ _; exact ⟨x7, x8, x10, x11, rfl⟩
  | cons e r ih =>
    intro t B q x7 x8 x10 x11 he ht hB hq
    rw [nr, Nat.add_mul, ← Nat.add_assoc] at hB
    have hB1 : B + (zz K e.2).natAbs * 54 ^ 20 < 2 ^ 4000 := Nat.lt_of_le_of_lt (Nat.le_add_right _ _) hB
    rw [List.length_cons] at hq
    have hm := he e List.mem_cons_self
    obtain ⟨d, hd, g⟩ := h.term hn h1 hm
    obtain ⟨y7, y8, y10, y11, h2, h3⟩ := term_step (kt := kt) (kw := kw) (a0 := a0) (a2 := a2) (a3 := a3) (a9 := a9) (x7 := x7) (x8 := x8) (x10 := x10) (x11 := x11) h hn h1 hm (hkt e hm) (hkw e hm) ht hB1 (by omega)
    obtain ⟨z7, z8, z10, z11, h4⟩ := ih (t := sumL t (term c n mk e)) (x7 := y7) (x8 := y8) (x10 := y10) (x11 := y11) (fun x hx => he x (List.mem_cons_of_mem _ hx)) (ht.add g hn hd) hB (by omega)
    refine ⟨z7, z8, z10, z11, ?_⟩
    show forL (.tp [7, 8]) bTerm (kD e.1 :: dks r) _ = _
    rw [forL]
    simp only [h2, h3]
    exact h4
end
end Pd73

/-! k73, mathematics: reduce_one, the whole. -/
namespace Pd73
open PySem PySem.Spec PyProof.Rows L2 Pd

section
variable {c n : Nat} {mk : Bool} {K b : Nat} {l : PL}
theorem flat_uk (c : Nat) (ns : List Nat) (w : Nat) : flat (uk c ns w) = List.replicate (ns.sum + w) c := by
  unfold flat uk
  simp only
  have e : ∀ k, (xs c k).cps.toList = List.replicate k c := fun k => by simp [xs, tx]
  rw [e]
  have : ((ns.map (xs c)).flatMap fun s => s.cps.toList) = List.replicate ns.sum c := by
    induction ns with
    | nil => rfl
    | cons j ns ih => rw [List.map_cons, List.flatMap_cons, ih, e, List.replicate_append_replicate, List.sum_cons]
  rw [this, List.replicate_append_replicate]
theorem len_le_sum : ∀ {ns : List Nat}, (∀ x ∈ ns, 1 ≤ x) → ns.length ≤ ns.sum
  | [], _ => Nat.le_refl _
  | x :: ns, h => by
    have := len_le_sum (ns := ns) fun y hy => h y (List.mem_cons_of_mem _ hy)
    have := h x List.mem_cons_self
    rw [List.length_cons, List.sum_cons]
    omega
theorem mem_le_sum {j : Nat} : ∀ {ns : List Nat}, j ∈ ns → j ≤ ns.sum
  | x :: ns, h => by
    rw [List.sum_cons]
    rcases List.mem_cons.mp h with z | z
    · omega
    · have := mem_le_sum z; omega
theorem InP.kok (h : InP c mk K b l) : KOk l := fun e he => by
  obtain ⟨ns, w, ek, h2, h3, h4, h5⟩ := h.key e he
  have hs : smallL = 100000 := rfl
  have hl : ns.length ≤ ns.sum := len_le_sum h3
  rw [ek, flat_uk]
  refine ⟨?_, by rw [List.length_replicate]; omega⟩
  show (ns.map (xs c)).length ≤ _
  rw [List.length_map]
  omega
theorem InP.cont (h : InP c mk K b l) {e : KY × Rat} (he : e ∈ l) : (∀ x ∈ (content e.1).cps.toList, x = c) ∧ (content e.1).cps.toList.length ≤ 20 := by
  obtain ⟨ns, w, ek, h2, h3, h4, h5⟩ := h.key e he
  have p := content_perm e.1
  rw [ek, flat_uk] at p
  rw [ek]
  refine ⟨fun x hx => ?_, by rw [p.length_eq, List.length_replicate]; exact h5⟩
  exact List.eq_of_mem_replicate (p.mem_iff.mp hx)
theorem InP.ltxt_c (h : InP c mk K b l) : ∀ x ∈ ltxt l, x = c := fun x hx => by
  obtain ⟨e, he, h2⟩ := List.mem_flatMap.mp hx
  exact (h.cont he).1 x h2
theorem flat_len {α β : Type} {f : α → List β} {k : Nat} : ∀ {l : List α}, (∀ x ∈ l, (f x).length ≤ k) → (l.flatMap f).length ≤ l.length * k
  | [], _ => by simp
  | x :: l, h => by
    have h1 := flat_len (l := l) fun y hy => h y (List.mem_cons_of_mem _ hy)
    have h2 := h x List.mem_cons_self
    rw [List.flatMap_cons, List.length_append, List.length_cons, Nat.succ_mul]
    omega
theorem InP.ltxt_len (h : InP c mk K b l) : (ltxt l).length ≤ 98000 := by
  have h1 := flat_len (f := fun e : KY × Rat => (content e.1).cps.toList) (k := 20) (l := l) fun e he => (h.cont he).2
  have h2 := h.len
  unfold ltxt
  omega
theorem InP.only (h : InP c mk K b l) (kind : Str) : m_only_letter [pD kind l] = some (.ok (.str (if ltxt l = [] then tx [] else xs c 1))) := by
  have hs : smallL = 100000 := rfl
  have hu := up_all h.ltxt_c
  have hl := h.ltxt_len
  have h2 := h.len
  have e1 : Pd73.letters l = if ltxt l = [] then tx [] else xs c 1 := letters_one h.ltxt_c
  have hused := used_letters_eq (kind := kind) h.kok (by omega) (by omega) (by rw [hu]; split <;> simp) (by rw [hu]; split <;> simp [tx]; omega)
  rw [e1] at hused
  refine only_letter_ok hused ?_
  split
  · simp [tx_len]
  · rw [xs_len]; exact Nat.le_refl _
end
end Pd73

/-! k73, mathematics: reduce_one, the whole. -/
namespace Pd73
open PySem PySem.Spec PyProof.Rows L2 Pd

section
variable {c n : Nat} {mk : Bool} {K b : Nat} {l : PL}
def qFac : DP := (dLc [9] (.nm 9) (dRg2 (dCons (dC (.int 1)) (dCons (dBin gAdd (dVar 0) (dC (.int 1))) dNil))) dYes (dMeth 1 "scaled" 2 m_Poly_scaled [] (dCall 2 m_elementary [] (dCons (dVar 9) (dCons (dVar 2) dNil))) (dCons (dMake 3 m_Ratio___init___1 [.int 1] (dCons (dIfE (dTruI (dBin (gI Builtin.bitAnd) (dVar 9) (dC (.int 1)))) (dC (.int 1)) (dNeg (dC (.int 1)))) dNil)) dNil)))
def qTr : DP := (dCall 3 m_continued [] (dCons (dLc [9] (.nm 9) (dRg2 (dCons (dC (.int 1)) (dCons (dBin gAdd (dVar 0) (dC (.int 1))) dNil))) dYes (dCall 2 m_power_trace [] (dCons (dVar 2) (dCons (dVar 9) dNil)))) (dCons (dVar 3) (dCons (dProp 1 m_Poly_degree (dVar 1)) dNil))))
def qOne : DP := (dLst (dCons (dCall 2 m_Poly_constant [] (dCons (dC (.str "number")) (dCons (dMake 3 m_Ratio___init___1 [.int 1] (dCons (dC (.int 1)) dNil)) dNil))) dNil))
def qPw : DP := (dCall 3 m_continued [] (dCons (dLc [9] (.nm 9) (dRg1 (dCons (dVar 0) dNil)) dYes (dCall 2 m_letter_power [] (dCons (dVar 2) (dCons (dVar 9) dNil)))) (dCons (dVar 3) (dCons (dBin gAdd (dProp 1 m_Poly_degree (dVar 1)) (dC (.int 1))) dNil))))
def qTot : DP := (dMake 3 m_Poly___init__ [] (dCons (dFld 1 "kind" (dVar 1)) (dCons (dLst dNil) dNil)))
theorem d_red : d_reduce_one = dSeq (dExpX 1 m_check_size (dCons (dVar 0) dNil)) (dSeq (dSetX 2 1 m_only_letter (dCons (dVar 1) dNil)) (dSeq (dIf (dB (dBin (gEqA false) (dVar 2) (dC (.str "")))) (dRet (dVar 1)) dNext) (dSeq (dSetO 3 qFac) (dSeq (dFrz 3 (dSet 4 qTr)) (dSeq (dSet 5 qOne) (dSeq (dIf (dB (dBin (gEqA false) (dFld 1 "kind" (dVar 1)) (dC (.str "matrix")))) (dSet 5 qPw) dNext) (dSeq (dSet 6 qTot) (dSeq (dFor (.tp [7, 8]) (dIt (dFld 1 "terms" (dVar 1))) bTerm) (dRet (dVar 6)))))))))) := by
  unfold d_reduce_one qFac qTr qOne qPw qTot bTerm bProd
  rfl
theorem dExpX_ok {k : Nat} {m : List D → Option Res} {fr : DPs} {env : DEnv} {as : List D} {d : D} (h : fr env = some as) (hl : as.length = k) (hm : m as = some (.ok d)) : dExpX k m fr env = some (.nx env) := by
  unfold dExpX
  rw [h]
  simp only [if_pos hl, hm]
theorem dExpX_ex {k q : Nat} {m : List D → Option Res} {fr : DPs} {env : DEnv} {as : List D} (h : fr env = some as) (hl : as.length = k) (hm : m as = some (.ex q)) : dExpX k m fr env = some (.rs q) := by
  unfold dExpX
  rw [h]
  simp only [if_pos hl, hm]
theorem dSetX_ok {i k : Nat} {m : List D → Option Res} {fr : DPs} {env : DEnv} {as : List D} {d : D} (h : fr env = some as) (hl : as.length = k) (hm : m as = some (.ok d)) : dSetX i k m fr env = some (.nx (env.set i (some (d, .fz)))) := by
  unfold dSetX
  rw [h]
  simp only [if_pos hl, hm]
theorem dSetX_ex {i k q : Nat} {m : List D → Option Res} {fr : DPs} {env : DEnv} {as : List D} (h : fr env = some as) (hl : as.length = k) (hm : m as = some (.ex q)) : dSetX i k m fr env = some (.rs q) := by
  unfold dSetX
  rw [h]
  simp only [if_pos hl, hm]
theorem prop_deg {g : DP} {env : DEnv} {kind : Str} {l : PL} {o : D} (hg : g env = some (pD kind l)) (hm : m_Poly_degree [pD kind l] = some o) : dProp 1 m_Poly_degree g env = some o := by
  rw [pD_obj] at hg hm
  simp only [dProp, hg, if_true, hm]
/-- wrong sizes -/
theorem reduce_size {i : Int} {p : D} (h : ¬ i ∈ [(1 : Int), 2, 3]) : m_reduce_one [.int i, p] = some (.ex 2) := by
  have e0 : env0 12 [.int i, p] = ren (some (.int i, .fz)) (some (p, .fz)) none none none none none none none none none none := rfl
  refine runX_rs (e0 ▸ ?_)
  rw [d_red]
  exact dSeq_rs (dExpX_ex (as := [.int i]) rfl rfl (check_bad h))
/-- two letters -/
theorem reduce_letters {p : D} (h1 : 1 ≤ n) (hn : n ≤ 3) (h : m_only_letter [p] = some (.ex 3)) : m_reduce_one [.int n, p] = some (.ex 3) := by
  have e0 : env0 12 [.int n, p] = ren (some (.int n, .fz)) (some (p, .fz)) none none none none none none none none none none := rfl
  refine runX_rs (e0 ▸ ?_)
  rw [d_red]
  exact (dSeq_nx (dExpX_ok (as := [.int n]) rfl rfl (check_ok h1 hn))).trans (dSeq_rs (dSetX_ex (as := [p]) rfl rfl h))
end
end Pd73

/-! k73, mathematics: reduce_one, the whole. -/
namespace Pd73
open PySem PySem.Spec PyProof.Rows L2 Pd

section
variable {c n : Nat} {mk : Bool} {K b : Nat} {l : PL}
theorem dLst_of {f : DPs} {env : DEnv} {l : List D} (h : f env = some l) (hl : l.length ≤ smallL) : dLst f env = some (.lst l) := by
  unfold dLst
  rw [h]
  simp only [if_pos hl]
theorem xs1_ne (c : Nat) : ¬ xs c 1 = Str.ofString "" := fun h => by
  have := congrArg Str.length h
  rw [xs_len] at this
  exact absurd this (by decide)
theorem kindOf_mat (mk : Bool) : decide (kindOf mk = Str.ofString "matrix") = mk := by cases mk <;> decide
theorem run1 (h : InP c mk K b l) (hn : n ≤ 3) (h1 : 1 ≤ n) (hne : ltxt l ≠ []) : ∀ d : Nat, m_Poly_degree [pD (kindOf mk) l] = some (.int d) → d ≤ 20 →
    dSeq (dSetO 3 qFac) (dFrz 3 (dSet 4 qTr)) (ren (some (.int n, .fz)) (some (pD (kindOf mk) l, .fz)) (some (.str (xs c 1), .fz)) none none none none none none none none none) =
      some (.nx (ren (some (.int n, .fz)) (some (pD (kindOf mk) l, .fz)) (some (.str (xs c 1), .fz)) (some (.lst ((facs c n).map (pD "number")), .fz)) (some (.lst ((seqX c n (trs c n) (d - n)).map (pD "number")), .fz)) none none none none none none none)) := by
  intro d hd hd2
  have s1 : dSetO 3 qFac (ren (some (.int n, .fz)) (some (pD (kindOf mk) l, .fz)) (some (.str (xs c 1), .fz)) none none none none none none none none none) = some (.nx (ren (some (.int n, .fz)) (some (pD (kindOf mk) l, .fz)) (some (.str (xs c 1), .fz)) (some (.lst ((facs c n).map (pD "number")), .ow)) none none none none none none none none)) :=
    dSetO_of (facs_eq (c := c) hn (by simp [ren]) rfl rfl)
  have hfr : frz 3 (ren (some (.int n, .fz)) (some (pD (kindOf mk) l, .fz)) (some (.str (xs c 1), .fz)) (some (.lst ((facs c n).map (pD "number")), .ow)) none none none none none none none none) = ren (some (.int n, .fz)) (some (pD (kindOf mk) l, .fz)) (some (.str (xs c 1), .fz)) (some (.lst ((facs c n).map (pD "number")), .fz)) none none none none none none none none := rfl
  have ht := trs_eq (c := c) (n := n) (env := ren (some (.int n, .fz)) (some (pD (kindOf mk) l, .fz)) (some (.str (xs c 1), .fz)) (some (.lst ((facs c n).map (pD "number")), .fz)) none none none none none none none none) hn (by simp [ren]) rfl rfl
  have hp := prop_deg (g := dVar 1) (env := ren (some (.int n, .fz)) (some (pD (kindOf mk) l, .fz)) (some (.str (xs c 1), .fz)) (some (.lst ((facs c n).map (pD "number")), .fz)) none none none none none none none none) rfl hd
  have hc := continued_eq (c := c) (n := n) (v := 0) (o := 1) (kind := "number") (many := d) (F := trs c n) (goodX_trs c n) hn h1 (by decide) (by rw [trs_len]; exact Nat.le_refl _) (by omega)
  rw [trs_len] at hc
  have hq : qTr (ren (some (.int n, .fz)) (some (pD (kindOf mk) l, .fz)) (some (.str (xs c 1), .fz)) (some (.lst ((facs c n).map (pD "number")), .fz)) none none none none none none none none) = some (.lst ((seqX c n (trs c n) (d - n)).map (pD "number"))) :=
    (dCall_of (n := 3) (m := m_continued) (dd := []) (as := [.lst ((trs c n).map (pD "number")), .lst ((facs c n).map (pD "number")), .int d]) (dCons_of ht (dCons_of rfl (dCons_of hp rfl))) rfl).trans hc
  refine (dSeq_nx s1).trans ?_
  unfold dFrz
  rw [hfr]
  exact dSet_of hq
theorem run2 (h : InP c mk K b l) (hn : n ≤ 3) (h1 : 1 ≤ n) {T : D} : ∀ d : Nat, m_Poly_degree [pD (kindOf mk) l] = some (.int d) → d ≤ 20 →
    dSeq (dSet 5 qOne) (dIf (dB (dBin (gEqA false) (dFld 1 "kind" (dVar 1)) (dC (.str "matrix")))) (dSet 5 qPw) dNext) (ren (some (.int n, .fz)) (some (pD (kindOf mk) l, .fz)) (some (.str (xs c 1), .fz)) (some (.lst ((facs c n).map (pD "number")), .fz)) (some (T, .fz)) none none none none none none none) =
      some (.nx (ren (some (.int n, .fz)) (some (pD (kindOf mk) l, .fz)) (some (.str (xs c 1), .fz)) (some (.lst ((facs c n).map (pD "number")), .fz)) (some (T, .fz)) (some (pwL c n mk (d + 1 - n), .fz)) none none none none none none)) := by
  intro d hd hd2
  obtain ⟨E, hE⟩ : ∃ E, E = ren (some (.int n, .fz)) (some (pD (kindOf mk) l, .fz)) (some (.str (xs c 1), .fz)) (some (.lst ((facs c n).map (pD "number")), .fz)) (some (T, .fz)) none none none none none none none := ⟨_, rfl⟩
  have hr := dMk1 (h := dC (.int 1)) (env := E) (i := 1) rfl
  have h11 : ((1 : Int) : Rat) = 1 := rfl
  rw [h11] at hr
  have hc : dCall 2 m_Poly_constant [] (dCons (dC (.str "number")) (dCons (dMake 3 m_Ratio___init___1 [.int 1] (dCons (dC (.int 1)) dNil)) dNil)) E = some (pD "number" (con1 c)) :=
    (dCall_of (n := 2) (m := m_Poly_constant) (dd := []) (as := [.str "number", rD 1]) (dCons_of rfl (dCons_of hr rfl)) rfl).trans (Poly_constant1 "number" c)
  have ho : qOne E = some (.lst [pD "number" (con1 c)]) := by
    have hl : dCons (dCall 2 m_Poly_constant [] (dCons (dC (.str "number")) (dCons (dMake 3 m_Ratio___init___1 [.int 1] (dCons (dC (.int 1)) dNil)) dNil))) dNil E = some [pD "number" (con1 c)] := dCons_of hc rfl
    exact dLst_of hl (by show 1 ≤ 100000; decide)
  have s1 : dSet 5 qOne E = some (.nx (E.set 5 (some (.lst [pD "number" (con1 c)], .fz)))) := dSet_of ho
  rw [← hE]
  refine (dSeq_nx s1).trans ?_
  have e5 : E.set 5 (some (.lst [pD "number" (con1 c)], .fz)) = ren (some (.int n, .fz)) (some (pD (kindOf mk) l, .fz)) (some (.str (xs c 1), .fz)) (some (.lst ((facs c n).map (pD "number")), .fz)) (some (T, .fz)) (some (.lst [pD "number" (con1 c)], .fz)) none none none none none none := by rw [hE]; rfl
  rw [e5]
  have hk := f_kind (g := dVar 1) (env := ren (some (.int n, .fz)) (some (pD (kindOf mk) l, .fz)) (some (.str (xs c 1), .fz)) (some (.lst ((facs c n).map (pD "number")), .fz)) (some (T, .fz)) (some (.lst [pD "number" (con1 c)], .fz)) none none none none none none) (kind := kindOf mk) (l := l) rfl
  have ht : dB (dBin (gEqA false) (dFld 1 "kind" (dVar 1)) (dC (.str "matrix"))) (ren (some (.int n, .fz)) (some (pD (kindOf mk) l, .fz)) (some (.str (xs c 1), .fz)) (some (.lst ((facs c n).map (pD "number")), .fz)) (some (T, .fz)) (some (.lst [pD "number" (con1 c)], .fz)) none none none none none none) = some mk := by
    have := (dBin_of (g := gEqA false) hk (h := dC (.str "matrix")) (y := .str "matrix") rfl).trans (gEqA_str false _ _)
    rw [dB_of this, Bool.false_xor, kindOf_mat]
  cases mk with
  | false =>
    refine (dIf_f ht).trans ?_
    rfl
  | true =>
    refine (dIf_t ht).trans ?_
    have hl := lps_eq (c := c) (n := n) (env := ren (some (.int n, .fz)) (some (pD (kindOf true) l, .fz)) (some (.str (xs c 1), .fz)) (some (.lst ((facs c n).map (pD "number")), .fz)) (some (T, .fz)) (some (.lst [pD "number" (con1 c)], .fz)) none none none none none none) hn (by simp [ren]) rfl rfl
    have hp := prop_deg (g := dVar 1) (env := ren (some (.int n, .fz)) (some (pD (kindOf true) l, .fz)) (some (.str (xs c 1), .fz)) (some (.lst ((facs c n).map (pD "number")), .fz)) (some (T, .fz)) (some (.lst [pD "number" (con1 c)], .fz)) none none none none none none) rfl hd
    have hcn := continued_eq (c := c) (n := n) (v := n - 1) (o := 0) (kind := "matrix") (many := d + 1) (F := lps c n) (goodX_lps c n) hn h1 (by omega) (by rw [lps_len]; exact Nat.le_refl _) (by omega)
    rw [lps_len] at hcn
    have hadd := (dBin_of (g := gAdd) hp (h := dC (.int 1)) (y := .int 1) rfl).trans (gAdd_int (d : Int) 1)
    have hq : qPw (ren (some (.int n, .fz)) (some (pD (kindOf true) l, .fz)) (some (.str (xs c 1), .fz)) (some (.lst ((facs c n).map (pD "number")), .fz)) (some (T, .fz)) (some (.lst [pD "number" (con1 c)], .fz)) none none none none none none) = some (.lst ((seqX c n (lps c n) (d + 1 - n)).map (pD "matrix"))) :=
      (dCall_of (n := 3) (m := m_continued) (dd := []) (as := [.lst ((lps c n).map (pD "matrix")), .lst ((facs c n).map (pD "number")), .int ((d + 1 : Nat) : Int)]) (dCons_of hl (dCons_of rfl (dCons_of hadd rfl))) rfl).trans hcn
    exact dSet_of hq
theorem deg_le (h : InP c mk K b l) : ∃ d : Nat, m_Poly_degree [pD (kindOf mk) l] = some (.int d) ∧ d ≤ 20 ∧ (∀ e ∈ l, (cyc e.1).sum + wrd e.1 ≤ d) := by
  have hs : smallL = 100000 := rfl
  obtain ⟨d, h1, h2, h3, h4⟩ := Poly_degree (kind := kindOf mk) h.kok (by have := h.len; omega)
  have fl : ∀ e ∈ l, (flat e.1).length = (cyc e.1).sum + wrd e.1 ∧ (flat e.1).length ≤ 20 := fun e he => by
    obtain ⟨ns, w, ek, q2, q3, q4, q5⟩ := h.key e he
    rw [ek, flat_uk, cyc_uk, wrd_uk, List.length_replicate]
    exact ⟨rfl, q5⟩
  refine ⟨d, h1, ?_, fun e he => by rw [← (fl e he).1]; exact h2 e he⟩
  by_cases q : l = []
  · rw [h3 q]; omega
  · obtain ⟨e, he, hd⟩ := h4 q
    rw [← hd]; exact (fl e he).2
theorem reduce_one_eq (h : InP c mk K b l) (hn : n ≤ 3) (h1 : 1 ≤ n) : m_reduce_one [.int n, pD (kindOf mk) l] = some (.ok (pD (kindOf mk) (if ltxt l = [] then l else red c n mk [] l))) := by
  have e0 : env0 12 [.int n, pD (kindOf mk) l] = ren (some (.int n, .fz)) (some (pD (kindOf mk) l, .fz)) none none none none none none none none none none := rfl
  obtain ⟨d, hd, hd2, hdl⟩ := deg_le h
  refine runX_rt (e0 ▸ ?_)
  rw [d_red]
  refine (dSeq_nx (dExpX_ok (as := [.int n]) rfl rfl (check_ok h1 hn))).trans ?_
  refine (dSeq_nx (dSetX_ok (as := [pD (kindOf mk) l]) rfl rfl (h.only (kindOf mk)))).trans ?_
  by_cases hne : ltxt l = []
  · simp only [if_pos hne]
    have hc : dB (dBin (gEqA false) (dVar 2) (dC (.str ""))) ((ren (some (.int n, .fz)) (some (pD (kindOf mk) l, .fz)) none none none none none none none none none none).set 2 (some (.str (tx []), .fz))) = some true := by
      have := (dBin_of (g := gEqA false) (f := dVar 2) (h := dC (.str "")) (env := (ren (some (.int n, .fz)) (some (pD (kindOf mk) l, .fz)) none none none none none none none none none none).set 2 (some (.str (tx []), .fz))) (x := .str (tx [])) (y := .str "") rfl rfl).trans (gEqA_str false _ _)
      rw [dB_of this, Bool.false_xor]
      rfl
    exact dSeq_rt ((dIf_t hc).trans (dRet_of rfl))
  · simp only [if_neg hne]
    have e2 : (ren (some (.int n, .fz)) (some (pD (kindOf mk) l, .fz)) none none none none none none none none none none).set 2 (some (.str (xs c 1), .fz)) = ren (some (.int n, .fz)) (some (pD (kindOf mk) l, .fz)) (some (.str (xs c 1), .fz)) none none none none none none none none none := rfl
    rw [e2]
    have hc : dB (dBin (gEqA false) (dVar 2) (dC (.str ""))) (ren (some (.int n, .fz)) (some (pD (kindOf mk) l, .fz)) (some (.str (xs c 1), .fz)) none none none none none none none none none) = some false := by
      have := (dBin_of (g := gEqA false) (f := dVar 2) (h := dC (.str "")) (env := ren (some (.int n, .fz)) (some (pD (kindOf mk) l, .fz)) (some (.str (xs c 1), .fz)) none none none none none none none none none) (x := .str (xs c 1)) (y := .str "") rfl rfl).trans (gEqA_str false _ _)
      rw [dB_of this, Bool.false_xor]
      congr 1
    refine (dSeq_nx (dIf_f hc)).trans ?_
    have r1 := run1 (n := n) h hn h1 hne d hd hd2
    have r2 := run2 (n := n) h hn h1 (T := .lst ((seqX c n (trs c n) (d - n)).map (pD "number"))) d hd hd2
    have assoc : ∀ (s t u : DS) (env e : DEnv), dSeq s t env = some (.nx e) → dSeq s (dSeq t u) env = u e := fun s t u env e hst => by
      unfold dSeq at hst ⊢
      cases q : s env with
      | none => rw [q] at hst; cases hst
      | some o =>
        rw [q] at hst
        cases o with
        | nx e1 =>
          simp only at hst ⊢
          rw [hst]
        | _ => cases hst
    refine (assoc _ _ _ _ _ r1).trans ((assoc _ _ _ _ _ r2).trans ?_)
    obtain ⟨E, hE⟩ : ∃ E, E = ren (some (.int n, .fz)) (some (pD (kindOf mk) l, .fz)) (some (.str (xs c 1), .fz)) (some (.lst ((facs c n).map (pD "number")), .fz)) (some (.lst ((seqX c n (trs c n) (d - n)).map (pD "number")), .fz)) (some (pwL c n mk (d + 1 - n), .fz)) none none none none none none := ⟨_, rfl⟩
    have hk := f_kind (g := dVar 1) (env := E) (kind := kindOf mk) (l := l) (by rw [hE]; rfl)
    have ht : qTot E = some (pD (kindOf mk) []) :=
      (dMake_of (n := 3) (m := m_Poly___init__) (dd := []) (as := [.str (kindOf mk), .lst []]) (dCons_of hk (dCons_of (dLst_of rfl (Nat.zero_le _)) rfl)) rfl).trans (Poly_init0 _)
    have s6 : dSet 6 qTot E = some (.nx (E.set 6 (some (pD (kindOf mk) [], .fz)))) := dSet_of ht
    rw [← hE]
    refine (dSeq_nx s6).trans ?_
    have e6 : E.set 6 (some (pD (kindOf mk) [], .fz)) = ren (some (.int n, .fz)) (some (pD (kindOf mk) l, .fz)) (some (.str (xs c 1), .fz)) (some (.lst ((facs c n).map (pD "number")), .fz)) (some (.lst ((seqX c n (trs c n) (d - n)).map (pD "number")), .fz)) (some (pwL c n mk (d + 1 - n), .fz)) (some (pD (kindOf mk) [], .fz)) none none none none none := by rw [hE]; rfl
    rw [e6]
    obtain ⟨y7, y8, y10, y11, hl⟩ := terms_loop (n := n) (kt := d - n) (kw := d + 1 - n) (a0 := some (.int n, .fz)) (a2 := some (.str (xs c 1), .fz)) (a3 := some (.lst ((facs c n).map (pD "number")), .fz)) (a9 := none) h hn h1 (fun e he j hj => by have := mem_le_sum hj; have := hdl e he; omega) (fun e he => by have := hdl e he; omega) (r := l) (t := []) (B := 0) (q := 0) (x7 := none) (x8 := none) (x10 := none) (x11 := none) (fun _ h => h) (tot_nil _) (by
        rw [Nat.zero_add]
        exact Nat.lt_of_le_of_lt (Nat.mul_le_mul_right _ h.fit.n) h.hb) (by have := h.len; omega)
    have hit := dIt_tup (f_terms (g := dVar 1) (env := ren (some (.int n, .fz)) (some (pD (kindOf mk) l, .fz)) (some (.str (xs c 1), .fz)) (some (.lst ((facs c n).map (pD "number")), .fz)) (some (.lst ((seqX c n (trs c n) (d - n)).map (pD "number")), .fz)) (some (pwL c n mk (d + 1 - n), .fz)) (some (pD (kindOf mk) [], .fz)) none none none none none) (kind := kindOf mk) (l := l) rfl)
    refine (dSeq_nx ((dFor_of hit).trans hl)).trans ?_
    exact dRet_of rfl
end
end Pd73

/-! k73, mathematics: the recursions of the reduced traces and powers, by functionals. -/
namespace Pd73
open PySem PySem.Spec PyProof.Rows L2 Pd

section
variable (c : Nat)
/-- the functional behind a monomial in the traces -/
def sh (ns : List Nat) (g : KY → Rat) : KY → Rat := fun b => g (jn (ku c ns 0) b)
theorem nd_ele {i : Nat} (hi : i ≤ 3) : ((ele c i).map (·.1)).Nodup := (good_ele (c := c) (n := 3) (by decide) hi).can.nd
theorem S_fac1 (g : KY → Rat) : S g (fac c 1) = g (ku c [1] 0) := by
  unfold fac
  rw [if_pos (by decide), S_canscl g _ (nd_ele c (by decide)), S_ele1]
  grind
theorem S_fac2 (g : KY → Rat) : S g (fac c 2) = -(1 / 2) * (g (ku c [1, 1] 0) - g (ku c [2] 0)) := by
  unfold fac
  rw [if_neg (by decide), S_canscl g _ (nd_ele c (by decide)), S_ele2]
  have h2 : (mkRat 1 2 : Rat) = 1 / 2 := by decide +kernel
  rw [h2]
  grind
theorem S_fac3 (g : KY → Rat) : S g (fac c 3) = (1 / 6) * (g (ku c [1, 1, 1] 0) - 3 * g (ku c [1, 2] 0) + 2 * g (ku c [3] 0)) := by
  unfold fac
  rw [if_pos (by decide), S_canscl g _ (nd_ele c (by decide)), S_ele3]
  have h6 : (mkRat 1 6 : Rat) = 1 / 6 := by decide +kernel
  rw [h6]
  grind
theorem S_mul1 (g : KY → Rat) (m : PL) : S g (mulL (fac c 1) m) = S (sh c [1] g) m := by
  rw [S_mul]
  refine S_congr fun x _ => ?_
  exact S_fac1 c fun a => g (jn a x.1)
theorem S_mul2 (g : KY → Rat) (m : PL) : S g (mulL (fac c 2) m) = -(1 / 2) * (S (sh c [1, 1] g) m - S (sh c [2] g) m) := by
  rw [S_mul]
  have : ∀ x ∈ m, pull (fac c 2) g x.1 = (fun b => -(1 / 2) * sh c [1, 1] g b + (1 / 2) * sh c [2] g b) x.1 := fun x _ => by
    have := S_fac2 c fun a => g (jn a x.1)
    unfold pull
    rw [this]
    unfold sh
    grind
  rw [S_congr (h := fun b => -(1 / 2) * sh c [1, 1] g b + (1 / 2) * sh c [2] g b) this, S_add (fun b => -(1 / 2) * sh c [1, 1] g b) (fun b => (1 / 2) * sh c [2] g b), S_smul, S_smul]
  grind
theorem S_mul3 (g : KY → Rat) (m : PL) : S g (mulL (fac c 3) m) = (1 / 6) * (S (sh c [1, 1, 1] g) m - 3 * S (sh c [1, 2] g) m + 2 * S (sh c [3] g) m) := by
  rw [S_mul]
  have : ∀ x ∈ m, pull (fac c 3) g x.1 = (fun b => (1 / 6) * sh c [1, 1, 1] g b + (-(1 / 2) * sh c [1, 2] g b + (1 / 3) * sh c [3] g b)) x.1 := fun x _ => by
    have := S_fac3 c fun a => g (jn a x.1)
    unfold pull
    rw [this]
    unfold sh
    grind
  rw [S_congr (h := fun b => (1 / 6) * sh c [1, 1, 1] g b + (-(1 / 2) * sh c [1, 2] g b + (1 / 3) * sh c [3] g b)) this, S_add (fun b => (1 / 6) * sh c [1, 1, 1] g b) (fun b => -(1 / 2) * sh c [1, 2] g b + (1 / 3) * sh c [3] g b), S_add (fun b => -(1 / 2) * sh c [1, 2] g b) (fun b => (1 / 3) * sh c [3] g b), S_smul, S_smul, S_smul]
  grind
end
section
variable {c n v o : Nat}
theorem S_tot1 (g : KY → Rat) {F : List PL} : S g (totC c F 0) = S (sh c [1] g) (F.getD (F.length - 1) []) := S_mul1 c g _
theorem S_tot2 (g : KY → Rat) {F : List PL} (h : GoodX c n v o F) (hn : n ≤ 3) (h2 : 2 ≤ n) (hl : n ≤ F.length) : S g (totC c F 1) = S (sh c [1] g) (F.getD (F.length - 1) []) + -(1 / 2) * (S (sh c [1, 1] g) (F.getD (F.length - 2) []) - S (sh c [2] g) (F.getD (F.length - 2) [])) := by
  rw [totC, S_sum g (good_totC h hn hl 0 (by omega)).can.nd, S_tot1, S_mul2]
  rw [show F.length - 1 - (0 + 1) = F.length - 2 by omega]
theorem S_tot3 (g : KY → Rat) {F : List PL} (h : GoodX c n v o F) (hn : n ≤ 3) (h2 : 3 ≤ n) (hl : n ≤ F.length) : S g (totC c F 2) = S (sh c [1] g) (F.getD (F.length - 1) []) + -(1 / 2) * (S (sh c [1, 1] g) (F.getD (F.length - 2) []) - S (sh c [2] g) (F.getD (F.length - 2) [])) +
    (1 / 6) * (S (sh c [1, 1, 1] g) (F.getD (F.length - 3) []) - 3 * S (sh c [1, 2] g) (F.getD (F.length - 3) []) + 2 * S (sh c [3] g) (F.getD (F.length - 3) [])) := by
  rw [totC, S_sum g (good_totC h hn hl 1 (by omega)).can.nd, S_tot2 g h hn (by omega) hl, S_mul3]
  rw [show F.length - 1 - (1 + 1) = F.length - 3 by omega]
end
end Pd73

/-! k73, mathematics: the recursions of Tq, Wq. -/
namespace Pd73
open PySem PySem.Spec PyProof.Rows L2 Pd

section
variable {c n v o : Nat}
def Xq (c n : Nat) (F : List PL) (i : Nat) : PL := (seqX c n F i).getD i []
theorem seq_new {F : List PL} (hF : F.length = n) (h1 : 1 ≤ n) {m : Nat} (hm : n ≤ m) : Xq c n F m = totC c (seqX c n F (m - n)) (n - 1) := by
  have hlen := seqX_len c n F (m - n)
  have e := seq_at (c := c) (n := n) (F := F) (i := m) (k := m - n + 1) (by omega) (by omega)
  unfold Xq
  rw [← e, seqX, List.getD_eq_getElem?_getD, List.getElem?_append_right (by omega), show m - (seqX c n F (m - n)).length = 0 by omega]
  simp
theorem seq_old {F : List PL} (hF : F.length = n) (h1 : 1 ≤ n) {m i : Nat} (hm : n ≤ m) (hi : i < m) : (seqX c n F (m - n)).getD i [] = Xq c n F i :=
  seq_at (by omega) (by omega)
theorem rec1 (g : KY → Rat) {F : List PL} (hF : F.length = 1) (m : Nat) : S g (Xq c 1 F (m + 1)) = S (sh c [1] g) (Xq c 1 F m) := by
  have hlen := seqX_len c 1 F (m + 1 - 1)
  rw [seq_new hF (by decide) (by omega)]
  rw [show 1 - 1 = 0 from rfl, S_tot1, show (seqX c 1 F (m + 1 - 1)).length - 1 = m by omega, seq_old hF (by decide) (by omega) (by omega)]
theorem rec2 (g : KY → Rat) {F : List PL} (hF : F.length = 2) (h : GoodX c 2 v o F) (m : Nat) : S g (Xq c 2 F (m + 2)) = S (sh c [1] g) (Xq c 2 F (m + 1)) + -(1 / 2) * (S (sh c [1, 1] g) (Xq c 2 F m) - S (sh c [2] g) (Xq c 2 F m)) := by
  have hlen := seqX_len c 2 F (m + 2 - 2)
  have hg := good_seq h (by decide) (by decide) (by omega) (m + 2 - 2)
  rw [seq_new hF (by decide) (by omega)]
  rw [show 2 - 1 = 1 from rfl, S_tot2 g hg (by decide) (by decide) (by omega), show (seqX c 2 F (m + 2 - 2)).length - 1 = m + 1 by omega, show (seqX c 2 F (m + 2 - 2)).length - 2 = m by omega, seq_old hF (by decide) (by omega) (by omega), seq_old hF (by decide) (by omega) (by omega)]
theorem rec3 (g : KY → Rat) {F : List PL} (hF : F.length = 3) (h : GoodX c 3 v o F) (m : Nat) : S g (Xq c 3 F (m + 3)) = S (sh c [1] g) (Xq c 3 F (m + 2)) + -(1 / 2) * (S (sh c [1, 1] g) (Xq c 3 F (m + 1)) - S (sh c [2] g) (Xq c 3 F (m + 1))) +
    (1 / 6) * (S (sh c [1, 1, 1] g) (Xq c 3 F m) - 3 * S (sh c [1, 2] g) (Xq c 3 F m) + 2 * S (sh c [3] g) (Xq c 3 F m)) := by
  have hlen := seqX_len c 3 F (m + 3 - 3)
  have hg := good_seq h (by decide) (by decide) (by omega) (m + 3 - 3)
  rw [seq_new hF (by decide) (by omega)]
  rw [show 3 - 1 = 2 from rfl, S_tot3 g hg (by decide) (by decide) (by omega), show (seqX c 3 F (m + 3 - 3)).length - 1 = m + 2 by omega, show (seqX c 3 F (m + 3 - 3)).length - 2 = m + 1 by omega, show (seqX c 3 F (m + 3 - 3)).length - 3 = m by omega,
    seq_old hF (by decide) (by omega) (by omega), seq_old hF (by decide) (by omega) (by omega), seq_old hF (by decide) (by omega) (by omega)]
theorem Tq_X (i : Nat) : Tq c n i = Xq c n (trs c n) i := rfl
theorem Wq_X (i : Nat) : Wq c n i = Xq c n (lps c n) i := rfl
theorem Tq_lo {i : Nat} (hi : i < n) : Tq c n i = trp c (i + 1) := by
  have e := seq_at (c := c) (n := n) (F := trs c n) (i := i) (k := 0) (by rw [trs_len]; omega) (by rw [trs_len]; omega)
  unfold Tq
  rw [← e]
  show (trs c n).getD i [] = _
  unfold trs
  rw [List.getD_eq_getElem?_getD, List.getElem?_map, List.getElem?_range hi]
  rfl
theorem Wq_lo {i : Nat} (hi : i < n) : Wq c n i = lpp c i := by
  have e := seq_at (c := c) (n := n) (F := lps c n) (i := i) (k := 0) (by rw [lps_len]; omega) (by rw [lps_len]; omega)
  unfold Wq
  rw [← e]
  show (lps c n).getD i [] = _
  unfold lps
  rw [List.getD_eq_getElem?_getD, List.getElem?_map, List.getElem?_range hi]
  rfl
end
end Pd73

/-! k73, mathematics: the functional of reduction: a product of traces, pulled to the front. -/
namespace Pd73
open PySem PySem.Spec PyProof.Rows L2 Pd

section
variable {c n v d m b : Nat} {l : PL} {mk : Bool}
/-- keys of the letter c -/
def KuL (c : Nat) (l : PL) : Prop := ∀ e ∈ l, ∃ ns w, e.1 = ku c ns w
theorem Good.kuL (h : Good c n v d m b l) : KuL c l := fun e he => by
  obtain ⟨ns, w, e1, h1, _⟩ := h.hom e he
  exact ⟨ns, w, by rw [e1, ku_srt h1]⟩
theorem S_ku {g h : KY → Rat} (k : KuL c l) (e : ∀ ns w, g (ku c ns w) = h (ku c ns w)) : S g l = S h l := S_congr fun x hx => by
  obtain ⟨ns, w, q⟩ := k x hx
  rw [q, e]
theorem S_swap (f : KY → KY → Rat) (l m : PL) : S (fun a => S (fun b => f a b) m) l = S (fun b => S (fun a => f a b) l) m := by
  induction l with
  | nil =>
    show 0 = S (fun _ => 0) m
    rw [S_zero]
  | cons e l ih =>
    show e.2 * S (fun b => f e.1 b) m + S (fun a => S (fun b => f a b) m) l = S (fun b => e.2 * f e.1 b + S (fun a => f a b) l) m
    rw [S_add (fun b => e.2 * f e.1 b) (fun b => S (fun a => f a b) l), S_smul, ih]
theorem ku3 (c : Nat) (x y z : List Nat) (u v w : Nat) : jn (ku c x u) (jn (ku c y v) (ku c z w)) = jn (ku c y v) (jn (ku c x u) (ku c z w)) := by
  rw [jn_ku, jn_ku, jn_ku, jn_ku, Nat.add_left_comm]
  refine ku_perm c ?_ _
  rw [← List.append_assoc, ← List.append_assoc]
  exact List.perm_append_comm.append_right z
theorem ku_assoc (c : Nat) (x y z : List Nat) (u v w : Nat) : jn (jn (ku c x u) (ku c y v)) (ku c z w) = jn (ku c x u) (jn (ku c y v) (ku c z w)) := by
  rw [jn_ku, jn_ku, jn_ku, jn_ku, List.append_assoc, Nat.add_assoc]
theorem pull_swap {t s : PL} (ht : KuL c t) (hs : KuL c s) (g : KY → Rat) (ns : List Nat) (w : Nat) : pull t (pull s g) (ku c ns w) = pull s (pull t g) (ku c ns w) := by
  unfold pull
  rw [S_swap]
  refine S_congr fun x hx => S_congr fun y hy => ?_
  obtain ⟨a, u, ea⟩ := hs x hx
  obtain ⟨b, v, eb⟩ := ht y hy
  rw [ea, eb, ku3]
theorem pull_cong {t : PL} (ht : KuL c t) {g h : KY → Rat} (e : ∀ ns w, g (ku c ns w) = h (ku c ns w)) (ns : List Nat) (w : Nat) : pull t g (ku c ns w) = pull t h (ku c ns w) := by
  unfold pull
  refine S_congr fun x hx => ?_
  obtain ⟨a, u, ea⟩ := ht x hx
  rw [ea, jn_ku, e]
/-- the functional behind the reduced traces ns -/
def pulls (c n : Nat) (ns : List Nat) (g : KY → Rat) : KY → Rat := ns.foldr (fun j g => pull (Tq c n (j - 1)) g) g
theorem S_foldl (g : KY → Rat) : ∀ (ns : List Nat) (x : PL), S g (ns.foldl (fun x j => mulL (Tq c n (j - 1)) x) x) = S (pulls c n ns g) x
  | [], x => rfl
  | j :: ns, x => by
    rw [List.foldl_cons, S_foldl g ns, S_mul]
    rfl
theorem S_mon (g : KY → Rat) (ns : List Nat) (w : Nat) : S g (mon c n mk ns w) = S (pulls c n ns g) (mon0 c n mk w) := S_foldl g ns _
theorem pulls_app (a b : List Nat) (g : KY → Rat) : pulls c n (a ++ b) g = pulls c n a (pulls c n b g) := by
  unfold pulls
  rw [List.foldr_append]
theorem kuT (hn : n ≤ 3) (h1 : 1 ≤ n) (j : Nat) : KuL c (Tq c n j) := (good_Tq hn h1).kuL
theorem pulls_perm (hn : n ≤ 3) (h1 : 1 ≤ n) {a b : List Nat} (p : a.Perm b) : ∀ (g : KY → Rat) (ns : List Nat) (w : Nat), pulls c n a g (ku c ns w) = pulls c n b g (ku c ns w) := by
  induction p with
  | nil => intro g ns w; rfl
  | cons x _ ih => intro g ns w; exact pull_cong (kuT hn h1 _) (fun ns w => ih g ns w) ns w
  | swap x y l => intro g ns w; exact pull_swap (kuT hn h1 _) (kuT hn h1 _) _ ns w
  | trans _ _ i1 i2 => intro g ns w; rw [i1, i2]
theorem sh_ku (c : Nat) (xs : List Nat) (g : KY → Rat) (ns : List Nat) (w : Nat) : sh c xs g (ku c ns w) = g (ku c (xs ++ ns) w) := by
  unfold sh
  rw [jn_ku, Nat.zero_add]
theorem pull_lo {j : Nat} (h1 : 1 ≤ j) (h2 : j ≤ n) (g : KY → Rat) (ns : List Nat) (w : Nat) : pull (Tq c n (j - 1)) g (ku c ns w) = g (ku c (j :: ns) w) := by
  unfold pull
  rw [Tq_lo (by omega), show j - 1 + 1 = j by omega, S_tr, jn_ku, Nat.zero_add]
  rfl
/-- short traces stay -/
theorem pulls_lo : ∀ {xs : List Nat} (g : KY → Rat) (ns : List Nat) (w : Nat), (∀ j ∈ xs, 1 ≤ j ∧ j ≤ n) → pulls c n xs g (ku c ns w) = sh c xs g (ku c ns w)
  | [], g, ns, w, _ => by rw [sh_ku]; rfl
  | j :: xs, g, ns, w, h => by
    show pull (Tq c n (j - 1)) (pulls c n xs g) (ku c ns w) = _
    obtain ⟨h1, h2⟩ := h j List.mem_cons_self
    rw [pull_lo h1 h2, pulls_lo g _ w fun k hk => h k (List.mem_cons_of_mem _ hk), sh_ku, sh_ku]
    congr 1
    exact ku_perm c List.perm_middle w
/-- what the functional g of the reduced monomial is -/
def RM (c n : Nat) (mk : Bool) (g : KY → Rat) (ns : List Nat) (w : Nat) : Rat := S g (mon c n mk ns w)
theorem kuM0 (hn : n ≤ 3) (h1 : 1 ≤ n) (mk : Bool) {w : Nat} (hw : mk = false → w = 0) : KuL c (mon0 c n mk w) := (good_mon0 hn h1 hw).kuL
theorem RM_perm (hn : n ≤ 3) (h1 : 1 ≤ n) (g : KY → Rat) {a b : List Nat} (p : a.Perm b) {w : Nat} (hw : mk = false → w = 0) : RM c n mk g a w = RM c n mk g b w := by
  unfold RM
  rw [S_mon, S_mon]
  exact S_ku (kuM0 hn h1 mk hw) fun ns u => pulls_perm hn h1 p g ns u
/-- short terms stay -/
theorem RM_lo (hn : n ≤ 3) (h1 : 1 ≤ n) (g : KY → Rat) {ns : List Nat} {w : Nat} (h : ∀ j ∈ ns, 1 ≤ j ∧ j ≤ n) (hw : mk = false → w = 0) (hw2 : w < n) : RM c n mk g ns w = g (ku c ns w) := by
  unfold RM
  rw [S_mon, S_ku (kuM0 hn h1 mk hw) fun xs u => pulls_lo g xs u h]
  cases mk with
  | true =>
    show S _ (Wq c n w) = _
    rw [Wq_lo hw2, S_lp, sh_ku, List.append_nil]
  | false =>
    show S _ (con1 c) = _
    rw [S_con, sh_ku, List.append_nil, hw rfl]
end
end Pd73

/-! k73, mathematics: the characteristic polynomial is reduced to zero, and so is its trace. -/
namespace Pd73
open PySem PySem.Spec PyProof.Rows L2 Pd

/-- six times the characteristic polynomial: coefficient, traces, power -/
def zL (n : Nat) : List (Int × List Nat × Nat) :=
  if n = 1 then [(6, [], 1), (-6, [1], 0)]
  else if n = 2 then [(6, [], 2), (-6, [1], 1), (3, [1, 1], 0), (-3, [2], 0)]
  else [(6, [], 3), (-6, [1], 2), (3, [1, 1], 1), (-3, [2], 1), (-1, [1, 1, 1], 0), (3, [1, 2], 0), (-2, [3], 0)]
def sumZ (f : List Nat → Nat → Rat) : List (Int × List Nat × Nat) → Rat
  | [] => 0
  | z :: r => (z.1 : Rat) * f z.2.1 z.2.2 + sumZ f r
theorem sumZ_congr {f h : List Nat → Nat → Rat} : ∀ {l : List (Int × List Nat × Nat)}, (∀ z ∈ l, f z.2.1 z.2.2 = h z.2.1 z.2.2) → sumZ f l = sumZ h l
  | [], _ => rfl
  | z :: r, e => by
    rw [sumZ, sumZ, e z List.mem_cons_self, sumZ_congr fun y hy => e y (List.mem_cons_of_mem _ hy)]
theorem sumZ_swap (F : List Nat → Nat → KY → Rat) (m : PL) : ∀ l : List (Int × List Nat × Nat), sumZ (fun ns u => S (F ns u) m) l = S (fun b => sumZ (fun ns u => F ns u b) l) m
  | [] => by
    show 0 = S (fun _ => 0) m
    rw [S_zero]
  | z :: r => by
    show (z.1 : Rat) * S (F z.2.1 z.2.2) m + sumZ (fun ns u => S (F ns u) m) r = S (fun b => (z.1 : Rat) * F z.2.1 z.2.2 b + sumZ (fun ns u => F ns u b) r) m
    rw [S_add (fun b => (z.1 : Rat) * F z.2.1 z.2.2 b) (fun b => sumZ (fun ns u => F ns u b) r), S_smul, sumZ_swap F m r]
theorem zL_lo {n : Nat} (h1 : 1 ≤ n) (hn : n ≤ 3) : ∀ z ∈ zL n, ∀ j ∈ z.2.1, 1 ≤ j ∧ j ≤ n := by
  have : n = 1 ∨ n = 2 ∨ n = 3 := by omega
  rcases this with rfl | rfl | rfl <;> decide
section
variable {c n : Nat} {mk : Bool}
theorem kuX {F : List PL} {v o : Nat} (h : GoodX c n v o F) (hn : n ≤ 3) (h1 : 1 ≤ n) (hF : F.length = n) (i : Nat) : KuL c (Xq c n F i) := by
  have hg := good_seq h hn h1 (by omega) i
  exact (hg.g i (by rw [seqX_len]; omega)).kuL
theorem S_sh0 {l : PL} (k : KuL c l) (g : KY → Rat) : S (sh c [] g) l = S g l := S_ku k fun ns w => sh_ku c [] g ns w
/-- the recursion, for each size -/
theorem X_zero {F : List PL} {v o : Nat} (h : GoodX c n v o F) (hn : n ≤ 3) (h1 : 1 ≤ n) (hF : F.length = n) (g : KY → Rat) (m : Nat) : sumZ (fun ns u => S (sh c ns g) (Xq c n F (m + u))) (zL n) = 0 := by
  have : n = 1 ∨ n = 2 ∨ n = 3 := by omega
  rcases this with rfl | rfl | rfl
  · have r := rec1 (c := c) g hF m
    have z := S_sh0 (kuX h hn h1 hF (m + 1)) g
    simp only [zL, sumZ, if_true, Nat.add_zero, z, r]
    grind
  · have r := rec2 (c := c) g hF h m
    have z := S_sh0 (kuX h hn h1 hF (m + 2)) g
    simp only [zL, sumZ, if_true, Nat.add_zero, z, r, Nat.reduceEqDiff, if_false]
    grind
  · have r := rec3 (c := c) g hF h m
    have z := S_sh0 (kuX h hn h1 hF (m + 3)) g
    simp only [zL, sumZ, if_true, Nat.add_zero, z, r, Nat.reduceEqDiff, if_false]
    grind
theorem W_zero (hn : n ≤ 3) (h1 : 1 ≤ n) (g : KY → Rat) (m : Nat) : sumZ (fun ns u => S (sh c ns g) (Wq c n (m + u))) (zL n) = 0 := X_zero (goodX_lps c n) hn h1 lps_len g m
/-- the functional at the trace of the power m -/
def PT (c n m : Nat) (f : KY → Rat) : Rat := if m = 0 then n * f (ku c [] 0) else S f (Tq c n (m - 1))
theorem PT_zero (hn : n ≤ 3) (h1 : 1 ≤ n) (f : KY → Rat) (m : Nat) : sumZ (fun ns u => PT c n (m + u) (sh c ns f)) (zL n) = 0 := by
  cases m with
  | succ m =>
    have h := X_zero (goodX_trs c n) hn h1 trs_len f m
    rw [← h]
    refine sumZ_congr fun z _ => ?_
    unfold PT
    rw [if_neg (by omega), show m + 1 + z.2.2 - 1 = m + z.2.2 by omega]
    rfl
  | zero =>
    have e : ∀ u, PT c n (0 + u) = PT c n u := fun u => by rw [Nat.zero_add]
    have p : ∀ (j : Nat) (ns : List Nat), 1 ≤ j → j ≤ n → PT c n j (sh c ns f) = f (ku c (ns ++ [j]) 0) := fun j ns a b => by
      unfold PT
      rw [if_neg (by omega), Tq_lo (by omega), S_tr, sh_ku, show j - 1 + 1 = j by omega]
    have p0 : ∀ ns : List Nat, PT c n 0 (sh c ns f) = n * f (ku c ns 0) := fun ns => by
      unfold PT
      rw [if_pos rfl, sh_ku, List.append_nil]
    simp only [e]
    have : n = 1 ∨ n = 2 ∨ n = 3 := by omega
    rcases this with rfl | rfl | rfl
    · simp only [zL, sumZ, if_true]
      rw [p 1 [] (by decide) (by decide), p0]
      simp only [List.nil_append]
      grind
    · simp only [zL, sumZ, if_true, Nat.reduceEqDiff, if_false]
      rw [p 2 [] (by decide) (by decide), p 1 [1] (by decide) (by decide), p0, p0]
      simp only [List.nil_append, List.cons_append]
      grind
    · simp only [zL, sumZ, if_true, Nat.reduceEqDiff, if_false]
      rw [p 3 [] (by decide) (by decide), p 2 [1] (by decide) (by decide), p 1 [1, 1] (by decide) (by decide), p 1 [2] (by decide) (by decide), p0, p0, p0]
      simp only [List.nil_append, List.cons_append]
      rw [ku_perm c (List.Perm.swap 1 2 []) 0]
      grind
/-- behind traces and a power: nothing is left -/
theorem RM_zeroW (hn : n ≤ 3) (h1 : 1 ≤ n) (g : KY → Rat) (ns0 : List Nat) (v : Nat) : sumZ (fun ns u => RM c n true g (ns0 ++ ns) (v + u)) (zL n) = 0 := by
  rw [← W_zero (c := c) hn h1 (pulls c n ns0 g) v]
  refine sumZ_congr fun z hz => ?_
  rw [RM_perm hn h1 g List.perm_append_comm (fun q => by cases q)]
  unfold RM
  rw [S_mon, pulls_app]
  exact S_ku (good_Wq hn h1).kuL fun xs w => pulls_lo _ xs w (zL_lo h1 hn z hz)
/-- the trace behind traces, before a power -/
def RT (c n : Nat) (mk : Bool) (g : KY → Rat) (ns : List Nat) (m w : Nat) : Rat := if m = 0 then n * RM c n mk g ns w else RM c n mk g (ns ++ [m]) w
theorem RM_zeroT (hn : n ≤ 3) (h1 : 1 ≤ n) (g : KY → Rat) (ns0 : List Nat) (v : Nat) {w : Nat} (hw : mk = false → w = 0) : sumZ (fun ns u => RT c n mk g (ns0 ++ ns) (v + u) w) (zL n) = 0 := by
  have key : ∀ z ∈ zL n, RT c n mk g (ns0 ++ z.2.1) (v + z.2.2) w = S (fun b => PT c n (v + z.2.2) (sh c z.2.1 fun a => pulls c n ns0 g (jn a b))) (mon0 c n mk w) := fun z hz => by
    have lo := zL_lo h1 hn z hz
    have km := kuM0 (c := c) hn h1 mk hw
    have h0 : S (pulls c n (z.2.1 ++ ns0) g) (mon0 c n mk w) = S (fun b => pulls c n ns0 g (jn (ku c z.2.1 0) b)) (mon0 c n mk w) := by
      rw [pulls_app]
      refine S_ku km fun xs u => ?_
      rw [pulls_lo _ xs u lo, sh_ku, jn_ku, Nat.zero_add]
    unfold RT PT
    by_cases q : v + z.2.2 = 0
    · rw [if_pos q]
      simp only [if_pos q]
      rw [RM_perm hn h1 g List.perm_append_comm hw]
      unfold RM
      rw [S_mon, h0, S_smul (n : Rat) (fun b => sh c z.2.1 (fun a => pulls c n ns0 g (jn a b)) (ku c [] 0))]
      congr 1
      refine S_ku km fun xs u => ?_
      rw [sh_ku, List.append_nil]
    · rw [if_neg q]
      simp only [if_neg q]
      have p : (ns0 ++ z.2.1 ++ [v + z.2.2]).Perm ([v + z.2.2] ++ (z.2.1 ++ ns0)) := List.perm_append_comm.trans (List.perm_append_comm.append_left _)
      rw [RM_perm hn h1 g p hw]
      unfold RM
      rw [S_mon, pulls_app, pulls_app]
      refine S_ku km fun xs u => ?_
      show pull (Tq c n (v + z.2.2 - 1)) (pulls c n z.2.1 (pulls c n ns0 g)) (ku c xs u) = _
      unfold pull
      refine S_ku (kuT hn h1 _) fun ys t => ?_
      rw [jn_ku, pulls_lo _ _ _ lo, sh_ku, sh_ku, jn_ku, List.append_assoc]
  rw [sumZ_congr (h := fun ns u => S (fun b => PT c n (v + u) (sh c ns fun a => pulls c n ns0 g (jn a b))) (mon0 c n mk w)) key, sumZ_swap (fun ns u b => PT c n (v + u) (sh c ns fun a => pulls c n ns0 g (jn a b)))]
  rw [S_congr (h := fun _ => 0) fun x _ => PT_zero hn h1 (fun a => pulls c n ns0 g (jn a x.1)) v, S_zero]
end
end Pd73

/-! k73, mathematics: matrices: the theorem of Cayley and Hamilton, in the form of zL. -/
namespace Pd73
open PySem PySem.Spec PyProof.Rows L2 Pd

def sR (n : Nat) (h : Nat → Rat) : Rat := match n with
  | 0 => 0
  | n + 1 => sR n h + h n
abbrev Mx := Nat → Nat → Rat
def mulM (n : Nat) (f g : Mx) : Mx := fun i j => sR n fun k => f i k * g k j
def oneM : Mx := fun i j => if i = j then 1 else 0
def pw (n : Nat) (f : Mx) : Nat → Mx
  | 0 => oneM
  | m + 1 => mulM n (pw n f m) f
def tr (n : Nat) (f : Mx) : Rat := sR n fun i => f i i
def prR (p : Nat → Rat) (ns : List Nat) : Rat := ns.foldr (fun j r => p j * r) 1
theorem prR_app (p : Nat → Rat) (a b : List Nat) : prR p (a ++ b) = prR p a * prR p b := by
  induction a with
  | nil => show prR p b = 1 * prR p b; grind
  | cons x a ih =>
    show p x * prR p (a ++ b) = p x * prR p a * prR p b
    rw [ih]; grind
theorem prR_perm (p : Nat → Rat) {a b : List Nat} (q : a.Perm b) : prR p a = prR p b := by
  induction q with
  | nil => rfl
  | cons x _ ih => show p x * prR p _ = p x * prR p _; rw [ih]
  | swap x y l => show p y * (p x * prR p l) = p x * (p y * prR p l); grind
  | trans _ _ h1 h2 => rw [h1, h2]
theorem ch1 (a : Rat) : 6 * (0 + 1 * a) + -6 * (0 + (0 + 1 * a)) = 0 := by grind
theorem CH0 {n : Nat} (h1 : 1 ≤ n) (hn : n ≤ 3) (f : Mx) {i j : Nat} (hi : i < n) (hj : j < n) : sumZ (fun ns u => prR (fun k => tr n (pw n f k)) ns * pw n f u i j) (zL n) = 0 := by
  have : n = 1 ∨ n = 2 ∨ n = 3 := by omega
  rcases this with rfl | rfl | rfl
  · have ei : i = 0 := by omega
    have ej : j = 0 := by omega
    subst ei ej
    simp only [zL, sumZ, prR, List.foldr, tr, pw, mulM, sR, oneM, if_true, Nat.reduceEqDiff, if_false]
    generalize f 0 0 = a
    grind
  · have ei : i = 0 ∨ i = 1 := by omega
    have ej : j = 0 ∨ j = 1 := by omega
    rcases ei with rfl | rfl <;> rcases ej with rfl | rfl <;>
      simp only [zL, sumZ, prR, List.foldr, tr, pw, mulM, sR, oneM, if_true, Nat.reduceEqDiff, if_false, Nat.one_ne_zero, Nat.zero_ne_one] <;>
      generalize f 0 0 = a <;> generalize f 0 1 = b <;> generalize f 1 0 = c <;> generalize f 1 1 = d <;> grind
  · have ei : i = 0 ∨ i = 1 ∨ i = 2 := by omega
    have ej : j = 0 ∨ j = 1 ∨ j = 2 := by omega
    rcases ei with rfl | rfl | rfl <;> rcases ej with rfl | rfl | rfl <;>
      simp only [zL, sumZ, prR, List.foldr, tr, pw, mulM, sR, oneM, if_true, Nat.reduceEqDiff, if_false, Nat.one_ne_zero, Nat.zero_ne_one] <;>
      generalize f 0 0 = a <;> generalize f 0 1 = b <;> generalize f 0 2 = c <;> generalize f 1 0 = d <;> generalize f 1 1 = e <;> generalize f 1 2 = g <;>
      generalize f 2 0 = h <;> generalize f 2 1 = k <;> generalize f 2 2 = l <;> grind
theorem sR_zero {n : Nat} {h : Nat → Rat} (e : ∀ k, k < n → h k = 0) : sR n h = 0 := by
  induction n with
  | zero => rfl
  | succ n ih =>
    rw [sR, ih fun k hk => e k (by omega), e n (by omega)]
    exact Rat.add_zero 0
theorem sumZ_add (f h : List Nat → Nat → Rat) : ∀ l : List (Int × List Nat × Nat), sumZ (fun ns u => f ns u + h ns u) l = sumZ f l + sumZ h l
  | [] => by simp only [sumZ]; grind
  | z :: r => by simp only [sumZ]; rw [sumZ_add f h r]; grind
theorem sumZ_smul (q : Rat) (f : List Nat → Nat → Rat) : ∀ l : List (Int × List Nat × Nat), sumZ (fun ns u => f ns u * q) l = sumZ f l * q
  | [] => by simp only [sumZ]; grind
  | z :: r => by simp only [sumZ]; rw [sumZ_smul q f r]; grind
theorem sumZ_zero : ∀ l : List (Int × List Nat × Nat), sumZ (fun _ _ => 0) l = 0
  | [] => rfl
  | z :: r => by simp only [sumZ]; rw [sumZ_zero r]; grind
theorem sumZ_sR (P : List Nat → Rat) (A : Nat → Nat → Rat) (l : List (Int × List Nat × Nat)) : ∀ n : Nat, sumZ (fun ns u => P ns * sR n (A u)) l = sR n fun k => sumZ (fun ns u => P ns * A u k) l
  | 0 => by
    show sumZ (fun ns u => P ns * 0) l = 0
    rw [sumZ_congr (h := fun _ _ => 0) fun z _ => by grind, sumZ_zero]
  | n + 1 => by
    show sumZ (fun ns u => P ns * (sR n (A u) + A u n)) l = sR n (fun k => sumZ (fun ns u => P ns * A u k) l) + sumZ (fun ns u => P ns * A u n) l
    rw [← sumZ_sR P A l n, ← sumZ_add (fun ns u => P ns * sR n (A u)) (fun ns u => P ns * A u n)]
    exact sumZ_congr fun z _ => by grind
section
variable {n : Nat} (f : Mx)
def trp' (n : Nat) (f : Mx) (k : Nat) : Rat := tr n (pw n f k)
theorem CH (h1 : 1 ≤ n) (hn : n ≤ 3) : ∀ (m : Nat) {i j : Nat}, i < n → j < n → sumZ (fun ns u => prR (trp' n f) ns * pw n f (m + u) i j) (zL n) = 0
  | 0, i, j, hi, hj => by
    have h := CH0 h1 hn f hi hj
    rw [← h]
    refine sumZ_congr fun z _ => ?_
    rw [Nat.zero_add]
    rfl
  | m + 1, i, j, hi, hj => by
    have e : ∀ z ∈ zL n, prR (trp' n f) z.2.1 * pw n f (m + 1 + z.2.2) i j = prR (trp' n f) z.2.1 * sR n (fun k => pw n f (m + z.2.2) i k * f k j) := fun z _ => by
      rw [Nat.add_right_comm]
      rfl
    rw [sumZ_congr (h := fun ns u => prR (trp' n f) ns * sR n (fun k => pw n f (m + u) i k * f k j)) e, sumZ_sR (prR (trp' n f)) (fun u k => pw n f (m + u) i k * f k j)]
    refine sR_zero fun k hk => ?_
    rw [sumZ_congr (h := fun ns u => prR (trp' n f) ns * pw n f (m + u) i k * f k j) (fun z _ => by grind), sumZ_smul (f k j) (fun ns u => prR (trp' n f) ns * pw n f (m + u) i k), CH h1 hn m hi hk, Rat.zero_mul]
theorem CHt (h1 : 1 ≤ n) (hn : n ≤ 3) (m : Nat) : sumZ (fun ns u => prR (trp' n f) ns * trp' n f (m + u)) (zL n) = 0 := by
  show sumZ (fun ns u => prR (trp' n f) ns * sR n (fun i => pw n f (m + u) i i)) (zL n) = 0
  rw [sumZ_sR (prR (trp' n f)) (fun u i => pw n f (m + u) i i)]
  exact sR_zero fun k hk => CH f h1 hn m hk hk
end
/-- the recursion tells the sequence -/
theorem rec_eq {n : Nat} (h1 : 1 ≤ n) (hn : n ≤ 3) (P : List Nat → Rat) (P0 : P [] = 1) {a b : Nat → Rat} (ha : ∀ m, sumZ (fun ns u => P ns * a (m + u)) (zL n) = 0) (hb : ∀ m, sumZ (fun ns u => P ns * b (m + u)) (zL n) = 0) (e : ∀ i, i < n → a i = b i) : ∀ m, a m = b m := by
  intro m
  induction m using Nat.strongRecOn with
  | ind m ih =>
    by_cases q : m < n
    · exact e m q
    · have x := ha (m - n)
      have y := hb (m - n)
      have : n = 1 ∨ n = 2 ∨ n = 3 := by omega
      rcases this with rfl | rfl | rfl
      · simp only [zL, sumZ, if_true, Nat.add_zero, show m - 1 + 1 = m by omega, P0] at x y
        rw [ih (m - 1) (by omega)] at x
        grind
      · simp only [zL, sumZ, if_true, Nat.reduceEqDiff, if_false, Nat.add_zero, show m - 2 + 2 = m by omega, show m - 2 + 1 = m - 1 by omega, P0] at x y
        rw [ih (m - 1) (by omega), ih (m - 2) (by omega)] at x
        grind
      · simp only [zL, sumZ, if_true, Nat.reduceEqDiff, if_false, Nat.add_zero, show m - 3 + 3 = m by omega, show m - 3 + 2 = m - 1 by omega, show m - 3 + 1 = m - 2 by omega, P0] at x y
        rw [ih (m - 1) (by omega), ih (m - 2) (by omega), ih (m - 3) (by omega)] at x
        grind
end Pd73

/-! k73, mathematics: the values of reduced polynomials at matrices; short polynomials stay; equal polynomials. -/
namespace Pd73
open PySem PySem.Spec PyProof.Rows L2 Pd

section
variable {c n : Nat} {mk : Bool} {K b : Nat} {l : PL}
/-- the functional of values: traces p, powers Q -/
def gv (p : Nat → Rat) (Q : Nat → Rat) : KY → Rat := fun k => prR p (cyc k) * Q (wrd k)
theorem gv_ku (p Q : Nat → Rat) (c : Nat) (ns : List Nat) (w : Nat) : gv p Q (ku c ns w) = prR p ns * Q w := by
  unfold gv ku
  rw [cyc_uk, wrd_uk, prR_perm p (List.mergeSort_perm ns nle)]
theorem S_shv {l : PL} (k : KuL c l) (p Q : Nat → Rat) (xs : List Nat) : S (sh c xs (gv p Q)) l = prR p xs * S (gv p Q) l := by
  rw [← S_smul]
  refine S_ku k fun ns w => ?_
  rw [sh_ku, gv_ku, gv_ku, prR_app]
  grind
theorem X_val {F : List PL} {v o : Nat} (h : GoodX c n v o F) (hn : n ≤ 3) (h1 : 1 ≤ n) (hF : F.length = n) (p Q : Nat → Rat) {b : Nat → Rat} (hb : ∀ m, sumZ (fun ns u => prR p ns * b (m + u)) (zL n) = 0) (e : ∀ i, i < n → S (gv p Q) (Xq c n F i) = b i) (m : Nat) : S (gv p Q) (Xq c n F m) = b m := by
  refine rec_eq h1 hn (prR p) rfl (a := fun m => S (gv p Q) (Xq c n F m)) (fun m => ?_) hb e m
  rw [← X_zero h hn h1 hF (gv p Q) m]
  refine sumZ_congr fun z _ => ?_
  rw [S_shv (kuX h hn h1 hF _)]
theorem T_val (hn : n ≤ 3) (h1 : 1 ≤ n) (f : Mx) (m : Nat) : S (gv (trp' n f) fun _ => 1) (Tq c n m) = trp' n f (m + 1) := by
  refine X_val (goodX_trs c n) hn h1 trs_len _ _ (b := fun m => trp' n f (m + 1)) (fun m => ?_) (fun i hi => ?_) m
  · rw [← CHt f h1 hn (m + 1)]
    refine sumZ_congr fun z _ => ?_
    rw [Nat.add_right_comm]
  · rw [← Tq_X, Tq_lo hi, S_tr, gv_ku]
    show trp' n f (i + 1) * 1 * 1 = _
    grind
theorem W_val (hn : n ≤ 3) (h1 : 1 ≤ n) (f : Mx) {i j : Nat} (hi : i < n) (hj : j < n) (m : Nat) : S (gv (trp' n f) fun w => pw n f w i j) (Wq c n m) = pw n f m i j := by
  refine X_val (goodX_lps c n) hn h1 lps_len _ _ (b := fun m => pw n f m i j) (fun m => CH f h1 hn m hi hj) (fun k hk => ?_) m
  rw [← Wq_X, Wq_lo hk, S_lp, gv_ku]
  show 1 * _ = _
  grind
theorem kuT0 (hn : n ≤ 3) (h1 : 1 ≤ n) (j : Nat) : ∀ e ∈ Tq c n j, ∃ ns, e.1 = ku c ns 0 := fun e he => by
  obtain ⟨ns, w, e1, h2, _, h4, _⟩ := (good_Tq (c := c) (i := j) hn h1).hom e he
  have : w = 0 := by omega
  subst this
  exact ⟨ns, by rw [e1, ku_srt h2]⟩
theorem pulls_val (hn : n ≤ 3) (h1 : 1 ≤ n) (f : Mx) (Q : Nat → Rat) : ∀ {ns : List Nat}, (∀ j ∈ ns, 1 ≤ j) → ∀ (xs : List Nat) (u : Nat), pulls c n ns (gv (trp' n f) Q) (ku c xs u) = prR (trp' n f) ns * gv (trp' n f) Q (ku c xs u)
  | [], _, xs, u => by
    show gv (trp' n f) Q (ku c xs u) = 1 * _
    grind
  | j :: ns, h, xs, u => by
    show pull (Tq c n (j - 1)) (pulls c n ns (gv (trp' n f) Q)) (ku c xs u) = _
    have e : S (fun a => pulls c n ns (gv (trp' n f) Q) (jn a (ku c xs u))) (Tq c n (j - 1)) = S (fun a => (prR (trp' n f) ns * gv (trp' n f) Q (ku c xs u)) * gv (trp' n f) (fun _ => 1) a) (Tq c n (j - 1)) := by
      refine S_congr fun x hx => ?_
      obtain ⟨ys, ex⟩ := kuT0 hn h1 _ x hx
      rw [ex, jn_ku, pulls_val hn h1 f Q (fun k hk => h k (List.mem_cons_of_mem _ hk)), gv_ku, gv_ku, gv_ku, prR_app, Nat.zero_add]
      grind
    unfold pull
    rw [e, S_smul, T_val hn h1]
    have h2 := h j List.mem_cons_self
    rw [show j - 1 + 1 = j by omega]
    show _ = trp' n f j * prR (trp' n f) ns * _
    grind
theorem RM_val (hn : n ≤ 3) (h1 : 1 ≤ n) (f : Mx) (Q : Nat → Rat) {ns : List Nat} {w : Nat} (h : ∀ j ∈ ns, 1 ≤ j) (hw : mk = false → w = 0) (h0 : S (gv (trp' n f) Q) (mon0 c n mk w) = Q w) : RM c n mk (gv (trp' n f) Q) ns w = prR (trp' n f) ns * Q w := by
  unfold RM
  rw [S_mon, S_ku (h := fun k => prR (trp' n f) ns * gv (trp' n f) Q k) (kuM0 hn h1 mk hw) fun xs u => pulls_val hn h1 f Q h xs u, S_smul, h0]
/-- the functional of reduction -/
def MF (c n : Nat) (mk : Bool) (g : KY → Rat) : KY → Rat := fun k => RM c n mk g (cyc k) (wrd k)
theorem MF_ku (hn : n ≤ 3) (h1 : 1 ≤ n) (g : KY → Rat) (ns : List Nat) {w : Nat} (hw : mk = false → w = 0) : MF c n mk g (ku c ns w) = RM c n mk g ns w := by
  unfold MF ku
  rw [cyc_uk, wrd_uk, RM_perm hn h1 g (List.mergeSort_perm ns nle) hw]
theorem S_red0 (g : KY → Rat) (h : InP c mk K b l) (hn : n ≤ 3) (h1 : 1 ≤ n) : S g (red c n mk [] l) = S (MF c n mk g) l := by
  rw [S_red g h hn h1 (fun _ h => h) (tot_nil _)]
  show 0 + S (MF c n mk g) l = _
  grind
theorem red_tot (h : InP c mk K b l) (hn : n ≤ 3) (h1 : 1 ≤ n) : Tot c n (K * 6 ^ 20) (nr K l * 54 ^ 20) l.length (red c n mk [] l) := by
  have := tot_red h hn h1 (r := l) (t := []) (fun _ h => h) (tot_nil _)
  rw [Nat.zero_add, Nat.zero_add] at this
  exact this
/-- equal functionals of reduction: the same reduced polynomial -/
theorem red_eq {K' b' : Nat} {l' : PL} (h : InP c mk K b l) (h' : InP c mk K' b' l') (hn : n ≤ 3) (h1 : 1 ≤ n) (e : ∀ γ, S (MF c n mk γ) l = S (MF c n mk γ) l') : red c n mk [] l = red c n mk [] l' :=
  (red_tot h hn h1).can.extS (red_tot h' hn h1).can fun γ => by rw [S_red0 γ h hn h1, S_red0 γ h' hn h1, e]
theorem red_nil (h : InP c mk K b l) (hn : n ≤ 3) (h1 : 1 ≤ n) (e : ∀ γ, S (MF c n mk γ) l = 0) : red c n mk [] l = [] :=
  (red_tot h hn h1).can.extS Can.nil fun γ => by rw [S_red0 γ h hn h1, e]; rfl
/-- a short polynomial -/
def Sho (c n : Nat) (l : PL) : Prop := ∀ e ∈ l, ∃ ns w, e.1 = uk c ns w ∧ srt ns ∧ (∀ j ∈ ns, 1 ≤ j ∧ j ≤ n) ∧ w < n
theorem red_short (h : InP c mk K b l) (hn : n ≤ 3) (h1 : 1 ≤ n) (hs : Sho c n l) : red c n mk [] l = l :=
  (red_tot h hn h1).can.extS h.can fun γ => by
    rw [S_red0 γ h hn h1]
    refine S_congr fun x hx => ?_
    obtain ⟨ns, w, e1, h2, h3, h4⟩ := hs x hx
    obtain ⟨ns', w', e1', _, _, hw, _⟩ := h.key x hx
    have ew : w' = w := by
      have := congrArg wrd (e1'.symm.trans e1)
      rwa [wrd_uk, wrd_uk] at this
    rw [ew] at hw
    rw [e1, ku_srt h2, MF_ku hn h1 γ ns hw, RM_lo hn h1 γ h3 hw h4]
theorem red_sho (h : InP c mk K b l) (hn : n ≤ 3) (h1 : 1 ≤ n) : Sho c n (red c n mk [] l) := fun e he => by
  obtain ⟨ns, w, e1, h2, h3, h4, _⟩ := (red_tot h hn h1).key e he
  exact ⟨ns, w, e1, h2, h3, by omega⟩
/-- constants stay -/
theorem short_of_const (h : InP c mk K b l) (h1 : 1 ≤ n) (hc : ltxt l = []) : Sho c n l := fun e he => by
  obtain ⟨ns, w, e1, h2, h3, h4, h5⟩ := h.key e he
  have hz : (content e.1).cps.toList = [] := by
    have := List.flatMap_eq_nil_iff.mp hc e he
    exact this
  have hp := content_perm e.1
  rw [hz] at hp
  have hl := hp.length_eq
  rw [e1, flat_uk, List.length_replicate, List.length_nil] at hl
  have hn0 : ns = [] := by
    cases ns with
    | nil => rfl
    | cons x r =>
      have := h3 x List.mem_cons_self
      rw [List.sum_cons] at hl
      omega
  exact ⟨ns, w, e1, h2, (fun j hj => by rw [hn0] at hj; cases hj), by omega⟩
/-- what reduce_one gives, in all cases -/
theorem reduce_eq (h : InP c mk K b l) (hn : n ≤ 3) (h1 : 1 ≤ n) : m_reduce_one [.int n, pD (kindOf mk) l] = some (.ok (pD (kindOf mk) (red c n mk [] l))) := by
  rw [reduce_one_eq h hn h1]
  split
  · rename_i hc
    rw [red_short h hn h1 (short_of_const h h1 hc)]
  · rfl
theorem red_val (h : InP c mk K b l) (hn : n ≤ 3) (h1 : 1 ≤ n) (f : Mx) (Q : Nat → Rat) (h0 : ∀ w, (mk = false → w = 0) → S (gv (trp' n f) Q) (mon0 c n mk w) = Q w) : S (gv (trp' n f) Q) (red c n mk [] l) = S (gv (trp' n f) Q) l := by
  rw [S_red0 _ h hn h1]
  refine S_congr fun x hx => ?_
  obtain ⟨ns, w, e1, h2, h3, h4, _⟩ := h.key x hx
  rw [e1, ku_srt h2, MF_ku hn h1 _ ns h4, RM_val hn h1 f Q h3 h4 (h0 w h4), gv_ku]
theorem mon0_num (f : Mx) (w : Nat) : S (gv (trp' n f) fun _ => 1) (mon0 c n false w) = 1 := by
  show S _ (con1 c) = _
  rw [S_con, gv_ku]
  show 1 * 1 = _
  grind
theorem mon0_mat (hn : n ≤ 3) (h1 : 1 ≤ n) (f : Mx) {i j : Nat} (hi : i < n) (hj : j < n) (w : Nat) : S (gv (trp' n f) fun w => pw n f w i j) (mon0 c n true w) = pw n f w i j := W_val hn h1 f hi hj w
end
end Pd73

/-! Pd: rules that evaluate denotations, one for each construct. -/
namespace Pd
namespace E
open PySem PySem.Spec PyProof.Rows L2
section
variable {env e1 : DEnv} {f g h : DP} {fs : DPs} {c c1 c2 : DT} {s t : DS} {x y z d : D} {xs l : List D} {o : Out} {b : Bool} {i j n : Nat}
theorem var (h : env[i]? = some (some (d, .fz))) : dVar i env = some d := by unfold dVar; rw [h]
theorem pk {fl : Fl} (h : env[i]? = some (some (d, fl))) : dPk i env = some d := by unfold dPk; rw [h]
theorem bin {op : D → D → Option D} (h1 : f env = some x) (h2 : g env = some y) (h3 : op x y = some z) : dBin op f g env = some z := by unfold dBin; rw [h1, h2]; exact h3
theorem map {op : D → Option D} (h1 : f env = some x) (h2 : op x = some z) : dMap op f env = some z := by unfold dMap; rw [h1]; exact h2
theorem bb (h : f env = some (.bl b)) : dB f env = some b := by unfold dB; rw [h]
theorem neg {k : Int} (h : f env = some (.int k)) : dNeg f env = some (.int (-k)) := by unfold dNeg; rw [h]
theorem cons (h1 : f env = some x) (h2 : fs env = some xs) : dCons f fs env = some (x :: xs) := by unfold dCons; rw [h1, h2]
theorem tup (h : fs env = some xs) (hl : xs.length ≤ smallL) : dTup fs env = some (.tup xs) := by unfold dTup; rw [h]; exact if_pos hl
theorem lst (h : fs env = some xs) (hl : xs.length ≤ smallL) : dLst fs env = some (.lst xs) := by unfold dLst; rw [h]; exact if_pos hl
theorem call {m : List D → Option D} {dd : List D} (h : fs env = some xs) (hl : (xs ++ dd).length = n) (hm : m (xs ++ dd) = some z) : dCall n m dd fs env = some z := by unfold dCall; rw [h]; exact (if_pos hl).trans hm
theorem make {m : List D → Option D} {dd : List D} (h : fs env = some xs) (hl : (xs ++ dd).length + 1 = n) (hm : m (xs ++ dd) = some z) : dMake n m dd fs env = some z := by unfold dMake; rw [h]; exact (if_pos hl).trans hm
theorem ife_t (h : c env = some true) (h2 : f env = some x) : dIfE c f g env = some x := by unfold dIfE; rw [h]; exact h2
theorem ife_f (h : c env = some false) (h2 : g env = some x) : dIfE c f g env = some x := by unfold dIfE; rw [h]; exact h2
theorem not (h : c env = some b) : dNot c env = some (!b) := by unfold dNot; rw [h]; rfl
theorem and_t (h : c1 env = some true) (h2 : c2 env = some b) : dAnd c1 c2 env = some b := by unfold dAnd; rw [h]; exact h2
theorem and_f (h : c1 env = some false) : dAnd c1 c2 env = some false := by unfold dAnd; rw [h]
theorem or_f (h : c1 env = some false) (h2 : c2 env = some b) : dOr c1 c2 env = some b := by unfold dOr; rw [h]; exact h2
theorem or_t (h : c1 env = some true) : dOr c1 c2 env = some true := by unfold dOr; rw [h]
theorem andV_t {b : Bool} (h : f env = some (.bl true)) (h2 : g env = some (.bl b)) : dAndV f g env = some (.bl b) := by unfold dAndV; rw [h, h2]
theorem andV_f (h : f env = some (.bl false)) : dAndV f g env = some (.bl false) := by unfold dAndV; rw [h]
theorem ixO {fl : Fl} {k : Int} (h1 : env[i]? = some (some (.lst xs, fl))) (h2 : f env = some (.int k)) (h3 : atI xs k = some d) : dIxO i f env = some d := by unfold dIxO; rw [h1]; dsimp only; rw [h2]; exact h3
theorem it_l (h : f env = some (.lst xs)) : dIt f env = some xs := by unfold dIt; rw [h]
theorem it_t (h : f env = some (.tup xs)) : dIt f env = some xs := by unfold dIt; rw [h]
theorem rg1 {k : Int} (h : f env = some (.int k)) (hk : -1000000 ≤ k ∧ k ≤ 1000000) : dRg1 (dCons f dNil) env = some (rangeD 0 k) := by
  unfold dRg1; rw [cons h (rfl : dNil env = some [])]; exact if_pos hk
theorem lc {vs : List Nat} {tt : Tgt} {it : DPs} {o : List D} (h : it env = some l) (hl : l.length ≤ smallL) (hc : compL tt c f l (wipeE env vs) = some o) : dLc vs tt it c f env = some (.lst o) := by
  unfold dLc; rw [h]; dsimp only; rw [if_pos hl, hc]; rfl
theorem fld {k : Nat} {nm : Str} {ns : List Str} {ds : List D} (h : f env = some (.obj k ns ds)) (h2 : lookND nm ns ds = some d) : dFld k nm f env = some d := by
  unfold dFld; rw [h]; exact (if_pos rfl).trans h2
theorem isO {k : Nat} {ns : List Str} {ds : List D} (h : f env = some (.obj k ns ds)) : dIsO k f env = some (.bl true) := by
  unfold dIsO; rw [h]; exact if_pos rfl
theorem subO {k : Nat} {m : List D → Option D} {ns : List Str} {ds : List D} (h : f env = some (.obj k ns ds)) (h2 : g env = some x) (h3 : m [.obj k ns ds, x] = some d) : dSubO k m f g env = some d := by
  unfold dSubO; rw [h]; dsimp only; rw [if_pos rfl, h2]; exact h3
/-! statements -/
theorem seq (h1 : s env = some (.nx e1)) (h2 : t e1 = some o) : dSeq s t env = some o := by unfold dSeq; rw [h1]; exact h2
theorem seq_rt (h1 : s env = some (.rt d)) : dSeq s t env = some (.rt d) := by unfold dSeq; rw [h1]
theorem seq_bk (h1 : s env = some (.bk e1)) : dSeq s t env = some (.bk e1) := by unfold dSeq; rw [h1]
theorem set (h : f env = some d) (he : env.set i (some (d, .fz)) = e1) : dSet i f env = some (.nx e1) := by unfold dSet; rw [h, ← he]; rfl
theorem setO (h : f env = some d) (he : env.set i (some (d, .ow)) = e1) : dSetO i f env = some (.nx e1) := by unfold dSetO; rw [h, ← he]; rfl
theorem ret (h : f env = some d) : dRet f env = some (.rt d) := by unfold dRet; rw [h]; rfl
theorem drop (h : f env = some d) : dDrop f env = some (.nx env) := by unfold dDrop; rw [h]; rfl
theorem if_t (h : c env = some true) (h2 : s env = some o) : dIf c s t env = some o := by unfold dIf; rw [h]; exact h2
theorem if_f (h : c env = some false) (h2 : t env = some o) : dIf c s t env = some o := by unfold dIf; rw [h]; exact h2
theorem next : dNext env = some (.nx env) := rfl
theorem for_ {tt : Tgt} {it : DPs} (h : it env = some l) (h2 : forL tt s l env = some o) : dFor tt it s env = some o := by unfold dFor; rw [h]; exact h2
theorem app {fl : Fl} (h1 : env[i]? = some (some (.lst xs, fl))) (hf : fl ≠ .fz) (hl : xs.length < smallL) (h2 : f env = some d) (he : env.set i (some (.lst (xs ++ [d]), fl)) = e1) : dApp i f env = some (.nx e1) := by
  unfold dApp; rw [h1]; dsimp only; rw [if_neg hf, if_pos hl, h2, ← he]; rfl
theorem frz_ {fl : Fl} (h1 : env[i]? = some (some (d, fl))) (h2 : s (env.set i (some (d, .fz))) = some o) : dFrz i s env = some o := by
  unfold dFrz frz
  rw [h1]
  dsimp only
  by_cases q : fl = .fz
  · subst q
    rw [if_pos rfl]
    have : env.set i (some (d, .fz)) = env := by
      apply List.ext_getElem?
      intro k
      by_cases e : i = k
      · subst e
        have hi : i < env.length := (List.getElem?_eq_some_iff.mp h1).1
        rw [List.getElem?_set_self hi, h1]
      · rw [List.getElem?_set_ne e]
    rwa [this] at h2
  · rw [if_neg q]; exact h2
theorem runD_rt {ds : List D} (h : s (env0 n ds) = some (.rt d)) : runD n s ds = some d := by unfold runD; rw [h]
theorem runD_nx {ds : List D} {e : DEnv} (h : s (env0 n ds) = some (.nx e)) : runD n s ds = some .non := by unfold runD; rw [h]
/-! loops: what holds behind each turn -/
theorem loop {tt : Tgt} {body : DS} {P : Nat → DEnv → Prop} {l : List D} (st : ∀ (a : Nat) (e : DEnv) (d : D), l[a]? = some d → P a e → ∃ e1 e2, tgtE tt d e = some e1 ∧ body e1 = some (.nx e2) ∧ P (a + 1) e2) {env : DEnv} (h : P 0 env) :
    ∃ e, forL tt body l env = some (.nx e) ∧ P l.length e := by
  have gen : ∀ (r : List D) (k : Nat) (env : DEnv), (∀ a, r[a]? = l[k + a]?) → k + r.length = l.length → P k env → ∃ e, forL tt body r env = some (.nx e) ∧ P l.length e := by
    intro r
    induction r with
    | nil => intro k env _ hk h; exact ⟨env, rfl, by rw [← hk]; exact h⟩
    | cons x r ih =>
      intro k env hr hk h
      have h0 := hr 0
      rw [List.getElem?_cons_zero, Nat.add_zero] at h0
      obtain ⟨e1, e2, t1, t2, t3⟩ := st k env x h0.symm h
      obtain ⟨e, q1, q2⟩ := ih (k + 1) e2 (fun a => by
        have := hr (a + 1)
        rw [List.getElem?_cons_succ] at this
        rw [this]; congr 1; omega) (by rw [List.length_cons] at hk; omega) t3
      refine ⟨e, ?_, q2⟩
      rw [forL, t1]
      dsimp only
      rw [t2]
      exact q1
  exact gen l 0 env (fun a => by rw [Nat.zero_add]) (Nat.zero_add _) h
/-- a loop over a mapped list: s the state, x what else stands in the slots, r turns left -/
theorem fold {α σ χ : Type} {enc : α → D} {tt : Tgt} {body : DS} {mk : σ → χ → DEnv} {f : σ → α → σ} {I : Nat → σ → Prop} : ∀ {A : List α} {s : σ} {x : χ},
    (∀ (r : Nat) (s : σ) (x : χ) (a : α), a ∈ A → I (r + 1) s → ∃ e1 x', tgtE tt (enc a) (mk s x) = some e1 ∧ body e1 = some (.nx (mk (f s a) x')) ∧ I r (f s a)) → I A.length s →
    ∃ x', forL tt body (A.map enc) (mk s x) = some (.nx (mk (A.foldl f s) x')) ∧ I 0 (A.foldl f s)
  | [], s, x, _, h => ⟨x, rfl, h⟩
  | a :: A, s, x, st, h => by
    obtain ⟨e1, x', h1, h2, h3⟩ := st A.length s x a List.mem_cons_self h
    obtain ⟨x'', h4, h5⟩ := fold (A := A) (s := f s a) (x := x') (fun r s x b hb => st r s x b (List.mem_cons_of_mem _ hb)) h3
    refine ⟨x'', ?_, h5⟩
    rw [List.map_cons, forL, h1]
    dsimp only
    rw [h2]
    exact h4
theorem comp {tt : Tgt} {c : DT} {f : DP} {e : DEnv} : ∀ {l o : List D}, l.length = o.length → (∀ (a : Nat) (x y : D), l[a]? = some x → o[a]? = some y → ∃ e1, tgtE tt x e = some e1 ∧ c e1 = some true ∧ f e1 = some y) → compL tt c f l e = some o
  | [], [], _, _ => rfl
  | [], _ :: _, h, _ => by simp at h
  | _ :: _, [], h, _ => by simp at h
  | x :: l, y :: o, h, st => by
    obtain ⟨e1, h1, h2, h3⟩ := st 0 x y rfl rfl
    rw [compL, h1]
    dsimp only
    rw [h2]
    dsimp only
    rw [h3]
    dsimp only
    rw [comp (l := l) (o := o) (by simpa using h) fun a u v hu hv => st (a + 1) u v (by simpa using hu) (by simpa using hv)]
end
end E
end Pd

/-! k73, the law's defs: numbers, the menu. -/
namespace Pd73
open PySem PySem.Spec PyProof.Rows L2 Pd

theorem gMod {i j : Int} (h : 0 < j) : (gIc (fun _ j => 0 < j) fun i j => i % j) (.int i) (.int j) = some (.int (i % j)) := by simp only [gIc, h, if_true]
theorem gDiv {i j : Int} (h : 0 < j) (h2 : j.natAbs < 2 ^ 60) : (gIc CDivW fun i j => i / j) (.int i) (.int j) = some (.int (i / j)) := by
  have h3 : CDivW i j := by
    unfold CDivW
    have := log_lt (k := 60) (by decide) h2
    omega
  simp only [gIc, h3, if_true]
theorem gMul_int {i j : Int} (h : CMulW i j) : gMul (.int i) (.int j) = some (.int (i * j)) := by unfold gMul; exact if_pos h
local macro_rules | `(tactic| trivial) => `(tactic| first
  | assumption
  | (with_reducible apply E.var) <;> rfl
  | with_reducible exact E.next
  | (with_reducible apply E.bin) <;> trivial
  | (with_reducible apply E.map) <;> trivial
  | (with_reducible apply E.cons) <;> trivial
  | (with_reducible apply E.neg) <;> trivial
  | (with_reducible apply E.bb) <;> trivial
  | (with_reducible apply E.not) <;> trivial
  | (with_reducible apply E.tup) <;> trivial
  | (with_reducible apply E.lst) <;> trivial
  | (with_reducible apply E.call) <;> trivial
  | (with_reducible apply E.make) <;> trivial
  | (with_reducible apply E.ixO) <;> trivial
  | (with_reducible apply E.set) <;> trivial
  | (with_reducible apply E.setO) <;> trivial
  | (with_reducible apply E.ret) <;> trivial
  | (with_reducible apply E.app) <;> trivial
  | (with_reducible apply E.rg1) <;> trivial
  | (with_reducible apply E.runD_rt) <;> trivial
  | (with_reducible apply gMod) <;> trivial
  | (with_reducible apply gDiv) <;> trivial
  | (with_reducible apply gMul_int) <;> trivial
  | rfl
  | decide
  | omega)
def scr (ns : List Int) : D := .lst (ns.map D.int)
theorem wN {a b : Nat} {x y : Nat} (h1 : a < 2 ^ x) (h2 : b < 2 ^ y) (hx : 0 < x := by decide) (hy : 0 < y := by decide) (hxy : x + y ≤ 1000000 := by decide) : CMulW (a : Int) (b : Int) := mulW (by simpa using h1) (by simpa using h2) hx hy hxy
theorem cell_eq {ns : List Int} (h : ns.length ≤ 63) {k : Nat} (hk : k ≤ 20) : ∃ i, m__law_cell [scr ns, .int k] = some (.int i) := by
  have hlen : gLen (scr ns) = some (.int ns.length) := by simp [gLen, scr]
  have w1 : CMulW 17 (k : Int) := wN (a := 17) (b := k) (x := 10) (y := 10) (by decide) (by omega)
  have w2 : CMulW 3 (ns.length : Int) := wN (a := 3) (b := ns.length) (x := 10) (y := 10) (by decide) (by omega)
  by_cases q : k < ns.length
  · have hat : gIx (scr ns) (.int (k : Int)) = some (.int (ns[k]'q)) := atI_nat (by rw [List.getElem?_map, List.getElem?_eq_getElem q]; rfl)
    refine ⟨ns[k]'q, E.runD_rt (E.seq_rt (E.if_t (E.bb (E.bin (y := .int ns.length) (by trivial) (by trivial) ?_)) (by trivial)))⟩
    exact congrArg (fun b => some (D.bl b)) (decide_eq_true (by omega))
  · refine ⟨_, E.runD_rt (E.seq (E.if_f (E.bb (E.bin (y := .int ns.length) (by trivial) (by trivial) ?_)) E.next) (by trivial))⟩
    exact congrArg (fun b => some (D.bl b)) (decide_eq_false (by omega))
theorem number_eq {ns : List Int} (h : ns.length ≤ 63) {k : Nat} (hk : k ≤ 20) : ∃ N : Nat, m__law_number [scr ns, .int k] = some (.int N) := by
  obtain ⟨i, hi⟩ := cell_eq h hk
  obtain ⟨M, hM⟩ : ∃ M : Nat, gAbs (.int i) = some (.int (M : Int)) := by
    refine ⟨(if i < 0 then -i else i).toNat, ?_⟩
    show some (D.int (if i < 0 then -i else i)) = _
    congr 2
    split <;> omega
  by_cases q : M < 10 ^ 18
  · have w1 : CMulW ((M : Int) + 5) (M + 48271) := wN (a := M + 5) (b := M + 48271) (x := 70) (y := 70) (by omega) (by omega)
    have w2 : CMulW 69621 (k : Int) := wN (a := 69621) (b := k) (x := 70) (y := 70) (by decide) (by omega)
    obtain ⟨A, a1, a2⟩ : ∃ A : Nat, ((M : Int) + 5) * (M + 48271) + 69621 * k = (A : Int) ∧ A < 2 ^ 200 := by
      refine ⟨(M + 5) * (M + 48271) + 69621 * k, by simp only [Int.natCast_add, Int.natCast_mul]; rfl, ?_⟩
      have : (M + 5) * (M + 48271) ≤ 2 ^ 70 * 2 ^ 70 := Nat.mul_le_mul (by omega) (by omega)
      omega
    have w3 : CMulW (A : Int) ((A : Int) % 65537 + 11) := by
      have := wN (a := A) (b := A % 65537 + 11) (x := 200) (y := 70) a2 (by omega)
      simp only [Int.natCast_add, Int.natCast_emod] at this
      exact this
    refine ⟨A * (A % 65537 + 11) + A / 7, ?_⟩
    refine E.runD_rt (E.seq (by trivial) (E.seq (e1 := [some (scr ns, .fz), some (.int k, .fz), some (.int ((A : Int) * ((A : Int) % 65537 + 11) + (A : Int) / 7), .fz)]) (E.if_t (E.bb (E.bin (x := .int M) (y := .int (10 ^ 18)) (by trivial) ?_ ?_)) (E.seq (e1 := [some (scr ns, .fz), some (.int k, .fz), some (.int A, .fz)]) ?_ (by trivial))) (E.ret ?_)))
    · rfl
    · exact congrArg (fun b => some (D.bl b)) (decide_eq_true (by omega))
    · rw [← a1]; trivial
    · simp only [Int.natCast_add, Int.natCast_mul, Int.natCast_ediv, Int.natCast_emod]; rfl
  · refine ⟨M, E.runD_rt (E.seq (by trivial) (E.seq (E.if_f (E.bb (E.bin (x := .int M) (y := .int (10 ^ 18)) (by trivial) ?_ ?_)) E.next) (by trivial)))⟩
    · rfl
    · exact congrArg (fun b => some (D.bl b)) (decide_eq_false (by omega))
end Pd73

/-! k73, the law's defs: the menu. -/
namespace Pd73
open PySem PySem.Spec PyProof.Rows L2 Pd
local macro_rules | `(tactic| trivial) => `(tactic| first
  | assumption
  | (with_reducible apply E.var) <;> rfl
  | with_reducible exact E.next
  | (with_reducible apply E.bin) <;> trivial
  | (with_reducible apply E.map) <;> trivial
  | (with_reducible apply E.cons) <;> trivial
  | (with_reducible apply E.neg) <;> trivial
  | (with_reducible apply E.bb) <;> trivial
  | (with_reducible apply E.not) <;> trivial
  | (with_reducible apply E.tup) <;> trivial
  | (with_reducible apply E.lst) <;> trivial
  | (with_reducible apply E.call) <;> trivial
  | (with_reducible apply E.make) <;> trivial
  | (with_reducible apply E.ixO) <;> trivial
  | (with_reducible apply E.set) <;> trivial
  | (with_reducible apply E.setO) <;> trivial
  | (with_reducible apply E.ret) <;> trivial
  | (with_reducible apply E.app) <;> trivial
  | (with_reducible apply E.rg1) <;> trivial
  | (with_reducible apply E.runD_rt) <;> trivial
  | (with_reducible apply gMod) <;> trivial
  | (with_reducible apply gDiv) <;> trivial
  | (with_reducible apply gMul_int) <;> trivial
  | rfl
  | decide
  | omega)
def stepL : List Nat := [1, 3, 5, 7, 9, 11, 15, 17, 19, 21, 23, 25]
def alpha : Str := "abcdefghijklmnopqrstuvwxyz"
theorem alpha_cps : alpha.cps.toList = (List.range 26).map (97 + ·) := by decide +kernel
theorem alpha_ix {i : Nat} (h : i < 26) : gIx (.str alpha) (.int (i : Int)) = some (.str (tx [97 + i])) := by
  have h2 : alpha.length ≤ smallL := by decide +kernel
  have h3 : alpha.cps.toList[i]? = some (97 + i) := by
    rw [alpha_cps, List.getElem?_map, List.getElem?_range h]; rfl
  unfold gIx
  dsimp only
  rw [if_pos h2, atI_nat h3]
  rfl
theorem menu_ne : ∀ a, a < 26 → ∀ b, b < 12 → (a + stepL.getD b 0 * 0) % 26 ≠ (a + stepL.getD b 0 * 1) % 26 := by decide +kernel
theorem step_lt : ∀ b, b < 12 → stepL.getD b 0 < 26 := by decide +kernel
theorem rangeD0' (n : Nat) : rangeD 0 (n : Int) = (List.range n).map fun j => D.int (j : Nat) := by
  unfold rangeD
  simp
theorem range_at {n a : Nat} {x : D} (h : ((List.range n).map fun j => D.int (j : Nat))[a]? = some x) : a < n ∧ x = .int (a : Int) := by
  rw [List.getElem?_map] at h
  obtain ⟨y, h1, h2⟩ := Option.map_eq_some_iff.mp h
  obtain ⟨h3, h4⟩ := List.getElem?_eq_some_iff.mp h1
  rw [List.length_range] at h3
  rw [List.getElem_range] at h4
  subst h4
  exact ⟨h3, h2.symm⟩
theorem map_at {α : Type} {f : α → D} {l : List α} {a : Nat} {x : D} (h : (l.map f)[a]? = some x) : ∃ y, l[a]? = some y ∧ x = f y := by
  rw [List.getElem?_map] at h
  obtain ⟨y, h1, h2⟩ := Option.map_eq_some_iff.mp h
  exact ⟨y, h1, h2.symm⟩
theorem menu_eq (N : Nat) : ∃ c d r, m__law_menu [.int N] = some (.str (tx (c :: d :: r))) ∧ c ≠ d ∧ r.length = 4 ∧ c < 200 := by
  obtain ⟨a, ha, ha2⟩ : ∃ a : Nat, (N : Int) % 26 = a ∧ a < 26 := ⟨N % 26, by omega, by omega⟩
  obtain ⟨b, hb, hb2⟩ : ∃ b : Nat, (N : Int) / 26 % 12 = b ∧ b < 12 := ⟨N / 26 % 12, by omega, by omega⟩
  have hs : gIx (.lst (stepL.map fun s => D.int (s : Nat))) (.int ((N : Int) / 26 % 12)) = some (.int (stepL.getD b 0 : Nat)) := by
    rw [hb]
    refine atI_nat ?_
    have hl : b < stepL.length := hb2
    rw [List.getElem?_map, List.getElem?_eq_getElem hl, List.getD_eq_getElem?_getD, List.getElem?_eq_getElem hl]
    rfl
  have hlt := step_lt b hb2
  generalize hS : stepL.getD b 0 = s at hs hlt
  let L : List Nat := (List.range 6).map fun k => 97 + (a + s * k) % 26
  let e1 : DEnv := [some (.int N, .fz), some (.str alpha, .fz), some (.int a, .fz), some (.int s, .fz), none]
  have hc : compL (.nm 4) dYes (dBin gIx (dVar 1) (dBin (gIc (fun _ j => 0 < j) fun i j => i % j) (dMap gInt (dBin gAdd (dVar 2) (dBin gMul (dVar 3) (dVar 4)))) (dC (.int 26)))) (rangeD 0 (6 : Nat)) (wipeE e1 [4]) = some (((List.range 6).map fun k => tx [97 + (a + s * k) % 26]).map D.str) := by
    rw [rangeD0']
    refine E.comp (by simp) fun k x y hx hy => ?_
    obtain ⟨h1, rfl⟩ := range_at hx
    obtain ⟨z, h2, rfl⟩ := map_at hy
    rw [List.getElem?_map, List.getElem?_range h1] at h2
    have h2' : tx [97 + (a + s * k) % 26] = z := by simpa using h2
    subst h2'
    have w : CMulW (s : Int) (k : Int) := wN (a := s) (b := k) (x := 10) (y := 10) (by omega) (by omega)
    have hi : gIx (.str alpha) (.int (((a : Int) + (s : Int) * (k : Int)) % 26)) = some (.str (tx [97 + (a + s * k) % 26])) := by
      have := alpha_ix (i := (a + s * k) % 26) (by omega)
      rw [← this]
      congr 2
    exact ⟨_, rfl, rfl, E.bin (x := .str alpha) (y := .int (((a : Int) + (s : Int) * (k : Int)) % 26)) (by trivial) (by trivial) hi⟩
  have hj : gJoin (Str.ofString "") (((List.range 6).map fun k => tx [97 + (a + s * k) % 26]).map D.str) = some (.str (tx L)) := by
    unfold gJoin
    rw [strsD_map]
    dsimp only
    rw [if_pos ?_, join_nil]
    · congr 3
    · show (6 : Nat) + 6 * 0 ≤ 100000
      decide
  have hl2 : (rangeD 0 (6 : Nat)).length ≤ smallL := by decide
  refine ⟨97 + (a + s * 0) % 26, 97 + (a + s * 1) % 26, [97 + (a + s * 2) % 26, 97 + (a + s * 3) % 26, 97 + (a + s * 4) % 26, 97 + (a + s * 5) % 26], E.runD_rt (E.seq (e1 := [some (.int N, .fz), some (.str alpha, .fz), none, none, none]) (by trivial) (E.seq (e1 := [some (.int N, .fz), some (.str alpha, .fz), some (.int a, .fz), none, none]) ?_ (E.seq (e1 := e1) ?_ (E.ret ?_)))), ?_, ?_, by omega⟩
  · rw [← ha]; trivial
  · refine E.set (E.bin (x := .lst (stepL.map fun s => D.int (s : Nat))) ?_ (y := .int ((N : Int) / 26 % 12)) (by trivial) hs) rfl
    rfl
  · unfold dJoin
    have h0 : dC (.str "") e1 = some (.str "") := rfl
    have h1 := E.lc (env := e1) (vs := [4]) (E.rg1 (env := e1) (f := dC (.int 6)) (k := (6 : Nat)) rfl (by decide)) hl2 hc
    rw [h0]
    dsimp only
    rw [h1]
    exact hj
  · have := menu_ne a ha2 b hb2
    rw [hS] at this
    omega
  · rfl
end Pd73

/-! k73, the law's defs: terms: cut, powers. -/
namespace Pd73
open PySem PySem.Spec PyProof.Rows L2 Pd
local macro_rules | `(tactic| trivial) => `(tactic| first
  | assumption
  | (with_reducible apply E.var) <;> rfl
  | with_reducible exact E.next
  | (with_reducible apply E.bin) <;> trivial
  | (with_reducible apply E.map) <;> trivial
  | (with_reducible apply E.cons) <;> trivial
  | (with_reducible apply E.neg) <;> trivial
  | (with_reducible apply E.bb) <;> trivial
  | (with_reducible apply E.not) <;> trivial
  | (with_reducible apply E.tup) <;> trivial
  | (with_reducible apply E.lst) <;> trivial
  | (with_reducible apply E.call) <;> trivial
  | (with_reducible apply E.make) <;> trivial
  | (with_reducible apply E.ixO) <;> trivial
  | (with_reducible apply E.set) <;> trivial
  | (with_reducible apply E.setO) <;> trivial
  | (with_reducible apply E.ret) <;> trivial
  | (with_reducible apply E.app) <;> trivial
  | (with_reducible apply E.rg1) <;> trivial
  | (with_reducible apply E.runD_rt) <;> trivial
  | (with_reducible apply gMod) <;> trivial
  | (with_reducible apply gDiv) <;> trivial
  | (with_reducible apply gMul_int) <;> trivial
  | rfl
  | decide
  | omega)
/-- a term of the law: lengths of the cycles, length of the word, whole number -/
abbrev TM := List Nat × Nat × Int
def cyL (c : Nat) (ns : List Nat) : List D := ns.map fun j => .str (xs c j)
def tmD (c : Nat) (t : TM) : D := .tup [.lst (cyL c t.1), .str (xs c t.2.1), .int t.2.2]
def tmL (c : Nat) (ts : List TM) : D := .lst (ts.map (tmD c))
theorem cyL_app (c : Nat) (a b : List Nat) : cyL c a ++ cyL c b = cyL c (a ++ b) := by unfold cyL; rw [List.map_append]
theorem cyL_len (c : Nat) (a : List Nat) : (cyL c a).length = a.length := by simp [cyL]
theorem gMulX (c : Nat) {k : Nat} (hk : k ≤ 1000) : gMul (.str (xs c 1)) (.int (k : Int)) = some (.str (xs c k)) := by
  unfold gMul
  dsimp only
  have hs : smallL = 100000 := rfl
  rw [if_pos ⟨by rw [Int.natAbs_natCast]; omega, by rw [xs_len, Int.toNat_natCast]; omega⟩, rep_xs, Int.toNat_natCast, Nat.one_mul]
theorem gLen_xs (c : Nat) {k : Nat} (hk : k ≤ 1000) : gLen (.str (xs c k)) = some (.int (k : Int)) := by
  unfold gLen
  dsimp only
  have hs : smallL = 100000 := rfl
  rw [xs_len, if_pos (by omega)]
theorem gEq_int_t {ne : Bool} {i j : Int} (h : i = j) : gEqA ne (.int i) (.int j) = some (.bl (!ne)) := by rw [gEqA_int, decide_eq_true h, Bool.xor_true]
theorem gEq_int_f {ne : Bool} {i j : Int} (h : i ≠ j) : gEqA ne (.int i) (.int j) = some (.bl ne) := by rw [gEqA_int, decide_eq_false h, Bool.xor_false]
theorem gEq_str_t {ne : Bool} {i j : Str} (h : i = j) : gEqA ne (.str i) (.str j) = some (.bl (!ne)) := by rw [gEqA_str, decide_eq_true h, Bool.xor_true]
theorem gEq_str_f {ne : Bool} {i j : Str} (h : i ≠ j) : gEqA ne (.str i) (.str j) = some (.bl ne) := by rw [gEqA_str, decide_eq_false h, Bool.xor_false]
def cutE (c : Nat) (D0 : Nat) (k w : D) (N : Nat) (ns : List Nat) (left : Nat) (x7 x8 : Option (D × Fl)) : DEnv := [some (.int N, .fz), some (.int D0, .fz), some (.str (xs c 1), .fz), some (k, .fz), some (w, .fz), some (.int left, .fz), some (.lst (cyL c ns), .ow), x7, x8]
def bCut : DS := (dSeq (dIf (dB (dBin (gEqA false) (dVar 5) (dC (.int 0)))) dBreak dNext) (dSeq (dSet 8 (dBin gAdd (dC (.int 1)) (dBin (gIc (fun _ j => 0 < j) fun i j => i % j) (dMap gInt (dVar 0)) (dVar 5)))) (dSeq (dSet 0 (dBin (gIc CDivW fun i j => i / j) (dVar 0) (dVar 5))) (dSeq (dApp 6 (dBin gMul (dVar 2) (dVar 8))) (dSet 5 (dBin (gI fun i j => i - j) (dVar 5) (dVar 8)))))))
theorem cut_loop {c D0 : Nat} {k w : D} : ∀ {l : List D} {N : Nat} {ns : List Nat} {left : Nat} {x7 x8 : Option (D × Fl)}, left ≤ l.length → left ≤ 20 → ns.length + left ≤ 1000 → (∀ j ∈ ns, 1 ≤ j) →
    ∃ N' ns' y7 y8, forL (.nm 7) bCut l (cutE c D0 k w N ns left x7 x8) = some (.nx (cutE c D0 k w N' ns' 0 y7 y8)) ∧ ns'.sum = ns.sum + left ∧ (∀ j ∈ ns', 1 ≤ j) := by
  intro l
  induction l with
  | nil =>
    intro N ns left x7 x8 h1 _ _ h3
    have : left = 0 := by simpa using h1
    subst this
    exact ⟨N, ns, x7, x8, rfl, rfl, h3⟩
  | cons d l ih =>
    intro N ns left x7 x8 h1 h2 hns h3
    have ht : tgtE (.nm 7) d (cutE c D0 k w N ns left x7 x8) = some (cutE c D0 k w N ns left (some (d, .fz)) x8) := rfl
    by_cases q : left = 0
    · subst q
      have hb : bCut (cutE c D0 k w N ns 0 (some (d, .fz)) x8) = some (.bk (cutE c D0 k w N ns 0 (some (d, .fz)) x8)) := by
        unfold bCut
        exact E.seq_bk (E.if_t (E.bb (E.bin (x := .int (0 : Nat)) (y := .int 0) rfl rfl (gEq_int_t rfl))) rfl)
      refine ⟨N, ns, some (d, .fz), x8, ?_, rfl, h3⟩
      rw [forL, ht]
      dsimp only
      rw [hb]
    · obtain ⟨len, hl, hl1, hl2⟩ : ∃ len : Nat, 1 + (N : Int) % (left : Int) = len ∧ 1 ≤ len ∧ len ≤ left := by
        have := Nat.mod_lt N (y := left) (by omega)
        exact ⟨1 + N % left, by rw [← Int.natCast_emod]; rfl, by omega, by omega⟩
      obtain ⟨left', hl', hl3⟩ : ∃ left' : Nat, (left : Int) - len = left' ∧ left = left' + len := ⟨left - len, by omega, by omega⟩
      have hq : (N : Int) / (left : Int) = ((N / left : Nat) : Int) := (Int.natCast_ediv N left).symm
      have hs : smallL = 100000 := rfl
      have hb : bCut (cutE c D0 k w N ns left (some (d, .fz)) x8) = some (.nx (cutE c D0 k w (N / left) (ns ++ [len]) left' (some (d, .fz)) (some (.int len, .fz)))) := by
        unfold bCut
        refine E.seq (E.if_f (E.bb (E.bin (x := .int left) (y := .int 0) rfl rfl (gEq_int_f (by omega)))) E.next) (E.seq (e1 := cutE c D0 k w N ns left (some (d, .fz)) (some (.int len, .fz))) ?_ (E.seq (e1 := cutE c D0 k w (N / left) ns left (some (d, .fz)) (some (.int len, .fz))) ?_ (E.seq (e1 := cutE c D0 k w (N / left) (ns ++ [len]) left (some (d, .fz)) (some (.int len, .fz))) ?_ ?_)))
        · refine E.set (E.bin (x := .int 1) (y := .int ((N : Int) % (left : Int))) rfl (E.bin (x := .int N) (y := .int left) rfl rfl (gMod (by omega))) ?_) rfl
          rw [← hl]; rfl
        · refine E.set (E.bin (x := .int N) (y := .int left) rfl rfl (z := .int ((N / left : Nat) : Int)) ?_) rfl
          rw [← hq]; exact gDiv (by omega) (by omega)
        · refine E.app (xs := cyL c ns) (fl := .ow) rfl (by decide) (by rw [cyL_len]; omega) (E.bin (x := .str (xs c 1)) (y := .int len) rfl rfl (gMulX c (by omega))) ?_
          show (cutE c D0 k w (N / left) ns left (some (d, .fz)) (some (.int len, .fz))).set 6 (some (.lst (cyL c ns ++ [D.str (xs c len)]), .ow)) = _
          rw [show [D.str (xs c len)] = cyL c [len] from rfl, cyL_app]
          rfl
        · refine E.set (E.bin (x := .int left) (y := .int len) rfl rfl (z := .int (left' : Int)) ?_) rfl
          rw [← hl']; rfl
      obtain ⟨N', ns', y7, y8, g1, g2, g3⟩ := ih (N := N / left) (ns := ns ++ [len]) (left := left') (x7 := some (d, .fz)) (x8 := some (.int len, .fz)) (by rw [List.length_cons] at h1; omega) (by omega) (by rw [List.length_append, List.length_singleton]; omega) (fun j hj => by
        rcases List.mem_append.mp hj with z | z
        · exact h3 j z
        · have : j = len := by simpa using z
          omega)
      refine ⟨N', ns', y7, y8, ?_, ?_, g3⟩
      · rw [forL, ht]
        dsimp only
        rw [hb]
        exact g1
      · rw [g2, List.sum_append_nat, List.sum_singleton]
        omega
theorem cut_eq {c : Nat} {mk : Bool} {N D0 : Nat} (hd : D0 ≤ 20) : ∃ ns w, m__law_cut [.int N, .int D0, .str (xs c 1), .str (kindOf mk)] = some (.tup [.lst (cyL c ns), .str (xs c w)]) ∧ ns.sum + w = D0 ∧ (∀ j ∈ ns, 1 ≤ j) ∧ (mk = false → w = 0) := by
  obtain ⟨w, N1, hw, hmk, h1⟩ : ∃ w N1 : Nat, w ≤ D0 ∧ (mk = false → w = 0) ∧ dIf (dB (dBin (gEqA false) (dVar 3) (dC (.str "matrix")))) (dSeq (dSet 4 (dBin gMul (dVar 2) (dBin (gIc (fun _ j => 0 < j) fun i j => i % j) (dMap gInt (dVar 0)) (dBin gAdd (dVar 1) (dC (.int 1)))))) (dSet 0 (dBin (gIc CDivW fun i j => i / j) (dVar 0) (dBin gAdd (dVar 1) (dC (.int 1)))))) dNext [some (.int N, .fz), some (.int D0, .fz), some (.str (xs c 1), .fz), some (.str (kindOf mk), .fz), some (.str (xs c 0), .fz), none, none, none, none] = some (.nx [some (.int N1, .fz), some (.int D0, .fz), some (.str (xs c 1), .fz), some (.str (kindOf mk), .fz), some (.str (xs c w), .fz), none, none, none, none]) := by
    cases mk with
    | false => exact ⟨0, N, by omega, fun _ => rfl, E.if_f (E.bb (E.bin (x := .str (kindOf false)) (y := .str "matrix") rfl rfl (gEq_str_f (by decide +kernel)))) E.next⟩
    | true =>
      have hmod := Nat.mod_lt N (y := D0 + 1) (by omega)
      have e1 : (N : Int) % ((D0 : Int) + 1) = ((N % (D0 + 1) : Nat) : Int) := (Int.natCast_emod N (D0 + 1)).symm
      have e2 : (N : Int) / ((D0 : Int) + 1) = ((N / (D0 + 1) : Nat) : Int) := (Int.natCast_ediv N (D0 + 1)).symm
      refine ⟨N % (D0 + 1), N / (D0 + 1), by omega, (fun h => by cases h), E.if_t (E.bb (E.bin (x := .str (kindOf true)) (y := .str "matrix") rfl rfl (gEq_str_t (by decide +kernel)))) (E.seq (e1 := [some (.int N, .fz), some (.int D0, .fz), some (.str (xs c 1), .fz), some (.str (kindOf true), .fz), some (.str (xs c (N % (D0 + 1))), .fz), none, none, none, none]) (E.set (E.bin (x := .str (xs c 1)) (y := .int ((N % (D0 + 1) : Nat) : Int)) rfl (E.bin (x := .int N) (y := .int ((D0 : Int) + 1)) rfl rfl ?_) (gMulX c (by omega))) rfl) (E.set (E.bin (x := .int N) (y := .int ((D0 : Int) + 1)) (z := .int ((N / (D0 + 1) : Nat) : Int)) rfl rfl ?_) rfl))⟩
      · rw [← e1]; exact gMod (by omega)
      · rw [← e2]; exact gDiv (by omega) (by omega)
  have hl : (D0 : Int) - w = ((D0 - w : Nat) : Int) := by omega
  obtain ⟨N', ns, y7, y8, g1, g2, g3⟩ := cut_loop (c := c) (D0 := D0) (k := .str (kindOf mk)) (w := .str (xs c w)) (l := rangeD 0 (D0 : Int)) (N := N1) (ns := []) (left := D0 - w) (x7 := none) (x8 := none) (by rw [rangeD0', List.length_map, List.length_range]; omega) (by omega) (by simp; omega) (fun j hj => by cases hj)
  refine ⟨ns, w, E.runD_rt (E.seq (e1 := [some (.int N, .fz), some (.int D0, .fz), some (.str (xs c 1), .fz), some (.str (kindOf mk), .fz), some (.str (xs c 0), .fz), none, none, none, none]) (E.set rfl rfl) (E.seq h1 (E.seq (e1 := [some (.int N1, .fz), some (.int D0, .fz), some (.str (xs c 1), .fz), some (.str (kindOf mk), .fz), some (.str (xs c w), .fz), some (.int ((D0 - w : Nat) : Int), .fz), none, none, none]) (E.set (E.bin (x := .int D0) (y := .int w) rfl (E.map (x := .str (xs c w)) rfl (gLen_xs c (by omega))) ?_) rfl) (E.seq (e1 := cutE c D0 (.str (kindOf mk)) (.str (xs c w)) N1 [] (D0 - w) none none) (E.setO (E.lst rfl (by decide)) rfl) (E.seq (E.for_ (E.rg1 (k := (D0 : Int)) rfl (by omega)) g1) (E.frz_ (d := .lst (cyL c ns)) (fl := .ow) rfl (E.ret (E.tup (xs := [.lst (cyL c ns), .str (xs c w)]) rfl (by show (2 : Nat) ≤ 100000; decide))))))))), by rw [g2]; simp; omega, g3, hmk⟩
  rw [← hl]; rfl
end Pd73

/-! k73, the law's defs: terms: powers, the characteristic polynomial. -/
namespace Pd73
open PySem PySem.Spec PyProof.Rows L2 Pd
local macro_rules | `(tactic| trivial) => `(tactic| first
  | assumption
  | (with_reducible apply E.var) <;> rfl
  | with_reducible exact E.next
  | (with_reducible apply E.bin) <;> trivial
  | (with_reducible apply E.map) <;> trivial
  | (with_reducible apply E.cons) <;> trivial
  | (with_reducible apply E.neg) <;> trivial
  | (with_reducible apply E.bb) <;> trivial
  | (with_reducible apply E.not) <;> trivial
  | (with_reducible apply E.tup) <;> trivial
  | (with_reducible apply E.lst) <;> trivial
  | (with_reducible apply E.call) <;> trivial
  | (with_reducible apply E.make) <;> trivial
  | (with_reducible apply E.ixO) <;> trivial
  | (with_reducible apply E.set) <;> trivial
  | (with_reducible apply E.setO) <;> trivial
  | (with_reducible apply E.ret) <;> trivial
  | (with_reducible apply E.app) <;> trivial
  | (with_reducible apply E.rg1) <;> trivial
  | (with_reducible apply E.runD_rt) <;> trivial
  | (with_reducible apply gMod) <;> trivial
  | (with_reducible apply gDiv) <;> trivial
  | (with_reducible apply gMul_int) <;> trivial
  | rfl
  | decide
  | omega)
/-- a drawn term -/
structure TmOk (mk : Bool) (t : TM) : Prop where
  j : ∀ j ∈ t.1, 1 ≤ j
  w : mk = false → t.2.1 = 0
  n : t.2.2.natAbs ≤ 6
def dgs (ds : List Nat) : D := .lst (ds.map fun d => .int (d : Nat))
def bPow : DS := (dSeq (dSet 8 (dCall 2 m__law_number [] (dCons (dVar 0) (dCons (dBin gAdd (dVar 1) (dVar 7)) dNil)))) (dSeq (dSet 9 (dBin gIx (dVar 3) (dBin (gIc (fun _ j => 0 < j) fun i j => i % j) (dMap gInt (dBin (gIc CDivW fun i j => i / j) (dVar 8) (dC (.int 13)))) (dMap gLen (dVar 3))))) (dSeq (dSet 10 (dCall 4 m__law_cut [] (dCons (dBin (gIc CDivW fun i j => i / j) (dVar 8) (dBin gMul (dC (.int 13)) (dMap gLen (dVar 3)))) (dCons (dVar 9) (dCons (dVar 4) (dCons (dVar 5) dNil)))))) (dApp 6 (dTup (dCons (dBin gIx (dVar 10) (dC (.int 0))) (dCons (dBin gIx (dVar 10) (dC (.int 1))) (dCons (dBin (gI fun i j => i - j) (dBin (gIc (fun _ j => 0 < j) fun i j => i % j) (dMap gInt (dVar 8)) (dC (.int 13))) (dC (.int 6))) dNil))))))))
def powE (c : Nat) (mk : Bool) (ns : List Int) (first many : Nat) (ds : List Nat) (ts : List TM) (x : Option (D × Fl) × Option (D × Fl) × Option (D × Fl) × Option (D × Fl)) : DEnv := [some (scr ns, .fz), some (.int first, .fz), some (.int many, .fz), some (dgs ds, .fz), some (.str (xs c 1), .fz), some (.str (kindOf mk), .fz), some (tmL c ts, .ow), x.1, x.2.1, x.2.2.1, x.2.2.2]
theorem tmL_app (c : Nat) (ts : List TM) (t : TM) : ts.map (tmD c) ++ [tmD c t] = (ts ++ [t]).map (tmD c) := by rw [List.map_append]; rfl
theorem pow_step {c : Nat} {mk : Bool} {ns : List Int} {first many : Nat} {ds : List Nat} {ts : List TM} {x : Option (D × Fl) × Option (D × Fl) × Option (D × Fl) × Option (D × Fl)} {k : Nat} (h : ns.length ≤ 63) (hk : first + k ≤ 20) (hd : ∀ d ∈ ds, d ≤ 20) (h0 : ds ≠ []) (hl : ds.length ≤ 20) (ht : ts.length ≤ 100) :
    ∃ t y, bPow ((powE c mk ns first many ds ts x).set 7 (some (.int k, .fz))) = some (.nx (powE c mk ns first many ds (ts ++ [t]) y)) ∧ TmOk mk t ∧ t.1.sum + t.2.1 ∈ ds := by
  obtain ⟨N, hN⟩ := number_eq h hk
  have hpos : 0 < ds.length := List.length_pos_iff.mpr h0
  have hi : N / 13 % ds.length < ds.length := Nat.mod_lt _ hpos
  have hlen : gLen (dgs ds) = some (.int (ds.length : Nat)) := by simp [gLen, dgs]
  have e1 : (N : Int) / 13 % (ds.length : Int) = ((N / 13 % ds.length : Nat) : Int) := by rw [Int.natCast_emod]; rfl
  have hg : gIx (dgs ds) (.int ((N / 13 % ds.length : Nat) : Int)) = some (.int (ds[N / 13 % ds.length]'hi : Nat)) := atI_nat (by rw [List.getElem?_map, List.getElem?_eq_getElem hi]; rfl)
  have hmem : ds[N / 13 % ds.length]'hi ∈ ds := List.getElem_mem hi
  generalize ds[N / 13 % ds.length]'hi = dg at hg hmem
  have w : CMulW 13 (ds.length : Int) := wN (a := 13) (b := ds.length) (x := 10) (y := 10) (by decide) (by omega)
  have e2 : (N : Int) / (13 * (ds.length : Int)) = ((N / (13 * ds.length) : Nat) : Int) := by rw [Int.natCast_ediv, Int.natCast_mul]; rfl
  obtain ⟨ms, wd, hc, c1, c2, c3⟩ := cut_eq (c := c) (mk := mk) (N := N / (13 * ds.length)) (hd dg hmem)
  have ha : m__law_number [scr ns, .int ((first : Int) + (k : Int))] = some (.int N) := by rw [← hN]; rfl
  have hs : smallL = 100000 := rfl
  have hs' : smallL = 100000 := hs
  let P : D := .tup [.lst (cyL c ms), .str (xs c wd)]
  let q6 : Option (D × Fl) := some (tmL c ts, .ow)
  let env (a7 a8 a9 a10 : Option (D × Fl)) : DEnv := powE c mk ns first many ds ts (a7, a8, a9, a10)
  let i7 : Option (D × Fl) := some (.int k, .fz)
  let i8 : Option (D × Fl) := some (.int N, .fz)
  let i9 : Option (D × Fl) := some (.int dg, .fz)
  refine ⟨(ms, wd, (N : Int) % 13 - 6), (i7, i8, i9, some (P, .fz)), ?_, ⟨c2, c3, ?_⟩, by rw [c1]; exact hmem⟩
  · unfold bPow
    refine E.seq (e1 := env i7 i8 x.2.2.1 x.2.2.2) (E.set (E.call (xs := [scr ns, .int ((first : Int) + (k : Int))]) rfl rfl ha) rfl) (E.seq (e1 := env i7 i8 i9 x.2.2.2) (E.set (E.bin (x := dgs ds) (y := .int ((N / 13 % ds.length : Nat) : Int)) rfl (E.bin (x := .int ((N : Int) / 13)) (y := .int ds.length) (E.map (x := .int ((N : Int) / 13)) (E.bin (x := .int N) (y := .int 13) rfl rfl (gDiv (by decide) (by decide))) rfl) (E.map (x := dgs ds) rfl hlen) ?_) hg) rfl) (E.seq (e1 := env i7 i8 i9 (some (P, .fz))) (E.set (E.call (xs := [.int ((N / (13 * ds.length) : Nat) : Int), .int dg, .str (xs c 1), .str (kindOf mk)]) (E.cons (E.bin (x := .int N) (y := .int (13 * (ds.length : Int))) rfl (E.bin (x := .int 13) (y := .int ds.length) rfl (E.map (x := dgs ds) rfl hlen) (gMul_int w)) ?_) rfl) rfl hc) rfl) (E.app (xs := ts.map (tmD c)) (fl := .ow) (d := tmD c (ms, wd, (N : Int) % 13 - 6)) rfl (by decide) (by rw [List.length_map]; omega) (E.tup (xs := [.lst (cyL c ms), .str (xs c wd), .int ((N : Int) % 13 - 6)]) ?_ (by show (3 : Nat) ≤ 100000; decide)) ?_)))
    · rw [← e1]; exact gMod (by omega)
    · rw [← e2]; exact gDiv (by omega) (by omega)
    · exact E.cons (E.bin (x := P) (y := .int 0) rfl rfl rfl) (E.cons (E.bin (x := P) (y := .int 1) rfl rfl rfl) (E.cons (E.bin (x := .int ((N : Int) % 13)) (y := .int 6) (E.bin (x := .int N) (y := .int 13) rfl rfl (gMod (by decide))) rfl rfl) rfl))
    · rw [tmL_app]; rfl
  · show ((N : Int) % 13 - 6).natAbs ≤ 6
    omega
theorem powers_eq {c : Nat} {mk : Bool} {ns : List Int} {first many : Nat} {ds : List Nat} (h : ns.length ≤ 63) (hk : first + many ≤ 21) (hd : ∀ d ∈ ds, d ≤ 20) (h0 : ds ≠ []) (hl : ds.length ≤ 20) :
    ∃ ts : List TM, m__law_powers [scr ns, .int first, .int many, dgs ds, .str (xs c 1), .str (kindOf mk)] = some (tmL c ts) ∧ ts.length = many ∧ ∀ t ∈ ts, TmOk mk t ∧ t.1.sum + t.2.1 ∈ ds := by
  obtain ⟨e, g1, g2⟩ := E.loop (tt := .nm 7) (body := bPow) (l := rangeD 0 (many : Int)) (P := fun a e => ∃ ts x, e = powE c mk ns first many ds ts x ∧ ts.length = a ∧ ∀ t ∈ ts, TmOk mk t ∧ t.1.sum + t.2.1 ∈ ds) (fun a e d hd0 hP => by
    obtain ⟨ts, x, rfl, h1, h2⟩ := hP
    rw [rangeD0'] at hd0
    obtain ⟨ha, rfl⟩ := range_at hd0
    obtain ⟨t, y, s1, s2, s3⟩ := pow_step (c := c) (mk := mk) (many := many) (ts := ts) (x := x) (k := a) h (first := first) (by omega) hd h0 hl (by omega)
    refine ⟨_, _, rfl, s1, ts ++ [t], y, rfl, by rw [List.length_append, h1]; rfl, fun u hu => ?_⟩
    rcases List.mem_append.mp hu with z | z
    · exact h2 u z
    · have : u = t := by simpa using z
      rw [this]; exact ⟨s2, s3⟩) (env := powE c mk ns first many ds [] (none, none, none, none)) ⟨[], _, rfl, rfl, fun t ht => by cases ht⟩
  obtain ⟨ts, x, rfl, h1, h2⟩ := g2
  refine ⟨ts, E.runD_rt (E.seq (e1 := powE c mk ns first many ds [] (none, none, none, none)) (E.setO (E.lst rfl (by decide)) rfl) (E.seq (E.for_ (E.rg1 (k := (many : Int)) rfl (by omega)) g1) (E.frz_ (d := tmL c ts) (fl := .ow) rfl (E.ret rfl)))), ?_, h2⟩
  rw [h1, rangeD0', List.length_map, List.length_range]
/-! ### newton -/
def zT (n : Nat) : List TM := (zL n).map fun z => (z.2.1, z.2.2, z.1)
theorem newton_eq {c n : Nat} (h1 : 1 ≤ n) (hn : n ≤ 3) : m__law_newton [.int n, .str (xs c 1)] = some (tmL c (zT n)) := by
  have a2 : gAdd (.str (xs c 1)) (.str (xs c 1)) = some (.str (xs c 2)) := by rw [gAdd_str (by rw [xs_len]; decide), xs_app]
  have a3 : gAdd (.str (xs c 2)) (.str (xs c 1)) = some (.str (xs c 3)) := by rw [gAdd_str (by rw [xs_len, xs_len]; decide), xs_app]
  have : n = 1 ∨ n = 2 ∨ n = 3 := by omega
  rcases this with rfl | rfl | rfl
  · refine E.runD_rt (E.seq_rt (E.if_t (E.bb (E.bin (x := .int (1 : Nat)) (y := .int 1) rfl rfl (gEq_int_t rfl))) ?_))
    trivial
  · refine E.runD_rt (E.seq (E.if_f (E.bb (E.bin (x := .int (2 : Nat)) (y := .int 1) rfl rfl (gEq_int_f (by decide)))) E.next) (E.seq (e1 := [some (.int (2 : Nat), .fz), some (.str (xs c 1), .fz), some (.str (xs c 2), .fz), none]) (E.set (E.bin rfl rfl a2) rfl) (E.seq_rt (E.if_t (E.bb (E.bin (x := .int (2 : Nat)) (y := .int 2) rfl rfl (gEq_int_t rfl))) ?_))))
    trivial
  · let L1 : List TM := [([], 3, 6), ([1], 2, -6), ([1, 1], 1, 3), ([2], 1, -3)]
    let L2 : List TM := [([1, 1, 1], 0, -1), ([1, 2], 0, 3), ([3], 0, -2)]
    refine E.runD_rt (E.seq (E.if_f (E.bb (E.bin (x := .int (3 : Nat)) (y := .int 1) rfl rfl (gEq_int_f (by decide)))) E.next) (E.seq (e1 := [some (.int (3 : Nat), .fz), some (.str (xs c 1), .fz), some (.str (xs c 2), .fz), none]) (E.set (E.bin rfl rfl a2) rfl) (E.seq (E.if_f (E.bb (E.bin (x := .int (3 : Nat)) (y := .int 2) rfl rfl (gEq_int_f (by decide)))) E.next) (E.seq (e1 := [some (.int (3 : Nat), .fz), some (.str (xs c 1), .fz), some (.str (xs c 2), .fz), some (tmL c L1, .fz)]) (E.set (d := tmL c L1) ?_ rfl) (E.ret (E.bin (x := tmL c L1) (y := tmL c L2) rfl ?_ rfl))))))
    · trivial
    · trivial
end Pd73

/-! k73, the law's defs: products of terms, traces, the zero polynomial. -/
namespace Pd73
open PySem PySem.Spec PyProof.Rows L2 Pd
local macro_rules | `(tactic| trivial) => `(tactic| first
  | assumption
  | (with_reducible apply E.var) <;> rfl
  | with_reducible exact E.next
  | (with_reducible apply E.bin) <;> trivial
  | (with_reducible apply E.map) <;> trivial
  | (with_reducible apply E.cons) <;> trivial
  | (with_reducible apply E.neg) <;> trivial
  | (with_reducible apply E.bb) <;> trivial
  | (with_reducible apply E.not) <;> trivial
  | (with_reducible apply E.tup) <;> trivial
  | (with_reducible apply E.lst) <;> trivial
  | (with_reducible apply E.call) <;> trivial
  | (with_reducible apply E.make) <;> trivial
  | (with_reducible apply E.ixO) <;> trivial
  | (with_reducible apply E.set) <;> trivial
  | (with_reducible apply E.setO) <;> trivial
  | (with_reducible apply E.ret) <;> trivial
  | (with_reducible apply E.app) <;> trivial
  | (with_reducible apply E.rg1) <;> trivial
  | (with_reducible apply E.runD_rt) <;> trivial
  | (with_reducible apply gMod) <;> trivial
  | (with_reducible apply gDiv) <;> trivial
  | (with_reducible apply gMul_int) <;> trivial
  | rfl
  | decide
  | omega)
/-- a term of moderate size -/
structure SmT (t : TM) : Prop where
  l : t.1.length ≤ 1000
  w : t.2.1 ≤ 1000
  n : t.2.2.natAbs < 2 ^ 200
def jnT (a b : TM) : TM := (a.1 ++ b.1, a.2.1 + b.2.1, a.2.2 * b.2.2)
def joinT (A B : List TM) : List TM := A.flatMap fun a => B.map (jnT a)
theorem foldl_app {α β : Type} (g : α → β) : ∀ (B : List α) (ts : List β), B.foldl (fun ts b => ts ++ [g b]) ts = ts ++ B.map g
  | [], ts => by simp
  | b :: B, ts => by rw [List.foldl_cons, foldl_app g B, List.map_cons, List.append_assoc]; rfl
theorem foldl_apps {α β : Type} (g : α → List β) : ∀ (B : List α) (ts : List β), B.foldl (fun ts b => ts ++ g b) ts = ts ++ B.flatMap g
  | [], ts => by simp
  | b :: B, ts => by rw [List.foldl_cons, foldl_apps g B, List.flatMap_cons, List.append_assoc]
theorem mulW' {i j : Int} (h1 : i.natAbs < 2 ^ 200) (h2 : j.natAbs < 2 ^ 200) : CMulW i j := mulW h1 h2 (by decide) (by decide) (by decide)
abbrev X3 := Option (D × Fl) × Option (D × Fl) × Option (D × Fl)
def jE (c : Nat) (A B : List TM) (ts : List TM) (x : X3) (y : X3) : DEnv := [some (tmL c A, .fz), some (tmL c B, .fz), some (tmL c ts, .ow), x.1, x.2.1, x.2.2, y.1, y.2.1, y.2.2]
def aX (c : Nat) (a : TM) : X3 := (some (.lst (cyL c a.1), .fz), some (.str (xs c a.2.1), .fz), some (.int a.2.2, .fz))
def bJ : DS := dApp 2 (dTup (dCons (dBin gAdd (dVar 3) (dVar 6)) (dCons (dBin gAdd (dVar 4) (dVar 7)) (dCons (dBin gMul (dVar 5) (dVar 8)) dNil))))
theorem j_inner {c : Nat} {A B ts : List TM} {a : TM} {y : X3} (ha : SmT a) (hB : ∀ b ∈ B, SmT b) (hl : ts.length + B.length ≤ 1000) :
    ∃ y', forL (.tp [6, 7, 8]) bJ (B.map (tmD c)) (jE c A B ts (aX c a) y) = some (.nx (jE c A B (ts ++ B.map (jnT a)) (aX c a) y')) := by
  have hs : smallL = 100000 := rfl
  obtain ⟨y', h, _⟩ := E.fold (enc := tmD c) (tt := .tp [6, 7, 8]) (body := bJ) (mk := fun ts y => jE c A B ts (aX c a) y) (f := fun ts b => ts ++ [jnT a b]) (I := fun r ts => ts.length + r ≤ 1000) (A := B) (s := ts) (x := y) (fun r s x b hb hI => by
    have sb := hB b hb
    refine ⟨jE c A B s (aX c a) (aX c b), aX c b, rfl, ?_, by rw [List.length_append, List.length_singleton]; omega⟩
    refine E.app (xs := s.map (tmD c)) (fl := .ow) (d := tmD c (jnT a b)) rfl (by decide) (by rw [List.length_map]; omega) (E.tup (xs := [.lst (cyL c (a.1 ++ b.1)), .str (xs c (a.2.1 + b.2.1)), .int (a.2.2 * b.2.2)]) ?_ (by show (3 : Nat) ≤ 100000; decide)) (by rw [tmL_app]; rfl)
    refine E.cons (E.bin (x := .lst (cyL c a.1)) (y := .lst (cyL c b.1)) rfl rfl ?_) (E.cons (E.bin (x := .str (xs c a.2.1)) (y := .str (xs c b.2.1)) rfl rfl ?_) (E.cons (E.bin (x := .int a.2.2) (y := .int b.2.2) rfl rfl (gMul_int (mulW' ha.n sb.n))) rfl))
    · rw [gAdd_lst (by rw [cyL_len, cyL_len]; have := ha.l; have := sb.l; omega), cyL_app]
    · rw [gAdd_str (by rw [xs_len, xs_len]; have := ha.w; have := sb.w; omega), xs_app]) hl
  rw [foldl_app] at h
  exact ⟨y', h⟩
theorem joined_eq {c : Nat} {A B : List TM} (hA : ∀ a ∈ A, SmT a) (hB : ∀ b ∈ B, SmT b) (hl : A.length * B.length + B.length ≤ 1000) : m__law_joined [tmL c A, tmL c B] = some (tmL c (joinT A B)) := by
  obtain ⟨⟨x, y⟩, h, _⟩ := E.fold (enc := tmD c) (tt := .tp [3, 4, 5]) (body := dFor (.tp [6, 7, 8]) (dIt (dVar 1)) bJ) (mk := fun ts (x : X3 × X3) => jE c A B ts x.1 x.2) (f := fun ts a => ts ++ B.map (jnT a)) (I := fun r ts => ts.length + r * B.length + B.length ≤ 1000) (A := A) (s := []) (x := ((none, none, none), (none, none, none))) (fun r s x a ha hI => by
    rw [Nat.succ_mul] at hI
    obtain ⟨y', h⟩ := j_inner (c := c) (A := A) (B := B) (ts := s) (a := a) (y := x.2) (hA a ha) hB (by omega)
    refine ⟨jE c A B s (aX c a) x.2, (aX c a, y'), rfl, E.for_ (l := B.map (tmD c)) (E.it_l rfl) h, by rw [List.length_append, List.length_map]; omega⟩) (by simpa using hl)
  rw [foldl_apps, List.nil_append] at h
  exact E.runD_rt (E.seq (e1 := jE c A B [] (none, none, none) (none, none, none)) (E.setO (E.lst rfl (by decide)) rfl) (E.seq (E.for_ (l := A.map (tmD c)) (E.it_l rfl) h) (E.frz_ (d := tmL c (joinT A B)) (fl := .ow) rfl (E.ret rfl))))
/-! ### traces -/
def clT (n : Nat) (a : TM) : TM := if a.2.1 = 0 then (a.1, 0, a.2.2 * n) else (a.1 ++ [a.2.1], 0, a.2.2)
def closeT (n : Nat) (A : List TM) : List TM := A.map (clT n)
def clE (c n : Nat) (A : List TM) (ts : List TM) (x : X3) : DEnv := [some (tmL c A, .fz), some (.int n, .fz), some (tmL c ts, .ow), x.1, x.2.1, x.2.2]
def bCl : DS := (dIf (dB (dBin (gEqA false) (dVar 4) (dC (.str "")))) (dApp 2 (dTup (dCons (dVar 3) (dCons (dC (.str "")) (dCons (dBin gMul (dVar 5) (dVar 1)) dNil))))) (dApp 2 (dTup (dCons (dBin gAdd (dVar 3) (dLst (dCons (dVar 4) dNil))) (dCons (dC (.str "")) (dCons (dVar 5) dNil))))))
theorem closed_eq {c n : Nat} (hn : n ≤ 3) {A : List TM} (hA : ∀ a ∈ A, SmT a) (hl : A.length ≤ 1000) : m__law_closed [tmL c A, .int n] = some (tmL c (closeT n A)) := by
  have hs : smallL = 100000 := rfl
  obtain ⟨x, h, _⟩ := E.fold (enc := tmD c) (tt := .tp [3, 4, 5]) (body := bCl) (mk := fun ts (x : X3) => clE c n A ts x) (f := fun ts a => ts ++ [clT n a]) (I := fun r ts => ts.length + r ≤ 1000) (A := A) (s := []) (x := (none, none, none)) (fun r s x a ha hI => by
    have sa := hA a ha
    refine ⟨clE c n A s (aX c a), aX c a, rfl, ?_, by rw [List.length_append, List.length_singleton]; omega⟩
    unfold bCl
    by_cases q : a.2.1 = 0
    · have ec : clT n a = (a.1, 0, a.2.2 * n) := by unfold clT; rw [if_pos q]
      rw [ec]
      refine E.if_t (E.bb (E.bin (x := .str (xs c a.2.1)) (y := .str "") rfl rfl (gEq_str_t (by rw [q]; rfl)))) (E.app (xs := s.map (tmD c)) (fl := .ow) (d := tmD c (a.1, 0, a.2.2 * n)) rfl (by decide) (by rw [List.length_map]; omega) (E.tup (xs := [.lst (cyL c a.1), .str (xs c 0), .int (a.2.2 * n)]) ?_ (by show (3 : Nat) ≤ 100000; decide)) (by rw [tmL_app]; rfl))
      exact E.cons rfl (E.cons rfl (E.cons (E.bin (x := .int a.2.2) (y := .int n) rfl rfl (gMul_int (mulW' sa.n (by rw [Int.natAbs_natCast]; exact Nat.lt_of_le_of_lt hn (by decide))))) rfl))
    · have ec : clT n a = (a.1 ++ [a.2.1], 0, a.2.2) := by unfold clT; rw [if_neg q]
      rw [ec]
      refine E.if_f (E.bb (E.bin (x := .str (xs c a.2.1)) (y := .str "") rfl rfl (gEq_str_f fun z => q (xs_inj (c := c) (z.trans (rfl : Str.ofString "" = xs c 0)))))) (E.app (xs := s.map (tmD c)) (fl := .ow) (d := tmD c (a.1 ++ [a.2.1], 0, a.2.2)) rfl (by decide) (by rw [List.length_map]; omega) (E.tup (xs := [.lst (cyL c (a.1 ++ [a.2.1])), .str (xs c 0), .int a.2.2]) ?_ (by show (3 : Nat) ≤ 100000; decide)) (by rw [tmL_app]; rfl))
      refine E.cons (E.bin (x := .lst (cyL c a.1)) (y := .lst (cyL c [a.2.1])) rfl (E.lst rfl (by show (1 : Nat) ≤ 100000; decide)) ?_) (E.cons rfl (E.cons rfl rfl))
      rw [gAdd_lst (by rw [cyL_len, cyL_len]; have := sa.l; simp; omega), cyL_app]) (by simpa using hl)
  rw [foldl_app, List.nil_append] at h
  exact E.runD_rt (E.seq (e1 := clE c n A [] (none, none, none)) (E.setO (E.lst rfl (by decide)) rfl) (E.seq (E.for_ (l := A.map (tmD c)) (E.it_l rfl) h) (E.frz_ (d := tmL c (closeT n A)) (fl := .ow) rfl (E.ret rfl))))
end Pd73

/-! k73, the law's defs: the zero polynomial; polynomials of terms. -/
namespace Pd73
open PySem PySem.Spec PyProof.Rows L2 Pd
local macro_rules | `(tactic| trivial) => `(tactic| first
  | assumption
  | (with_reducible apply E.var) <;> rfl
  | with_reducible exact E.next
  | (with_reducible apply E.bin) <;> trivial
  | (with_reducible apply E.map) <;> trivial
  | (with_reducible apply E.cons) <;> trivial
  | (with_reducible apply E.neg) <;> trivial
  | (with_reducible apply E.bb) <;> trivial
  | (with_reducible apply E.not) <;> trivial
  | (with_reducible apply E.tup) <;> trivial
  | (with_reducible apply E.lst) <;> trivial
  | (with_reducible apply E.call) <;> trivial
  | (with_reducible apply E.make) <;> trivial
  | (with_reducible apply E.ixO) <;> trivial
  | (with_reducible apply E.set) <;> trivial
  | (with_reducible apply E.setO) <;> trivial
  | (with_reducible apply E.ret) <;> trivial
  | (with_reducible apply E.app) <;> trivial
  | (with_reducible apply E.rg1) <;> trivial
  | (with_reducible apply E.runD_rt) <;> trivial
  | (with_reducible apply gMod) <;> trivial
  | (with_reducible apply gDiv) <;> trivial
  | (with_reducible apply gMul_int) <;> trivial
  | rfl
  | decide
  | omega)
/-- the terms of the polynomial that is zero -/
def zeroT (mk : Bool) (n : Nat) (F O : List TM) (k : Nat) : List TM := if mk then joinT F (zT n) ++ joinT (closeT n (joinT O (zT n))) [([], k, 1)] else closeT n (joinT O (zT n))
/-- drawn factors -/
structure Fct (A : List TM) : Prop where
  o : ∀ t ∈ A, TmOk true t ∧ t.1.sum + t.2.1 ≤ 3
  l : A.length ≤ 2
theorem Fct.sm {A : List TM} (h : Fct A) : ∀ t ∈ A, SmT t := fun t ht => by
  obtain ⟨h1, h2⟩ := h.o t ht
  have := len_le_sum h1.j
  exact ⟨by omega, by omega, Nat.lt_of_le_of_lt h1.n (by decide)⟩
theorem zT_sm (n : Nat) : ∀ t ∈ zT n, t.1.length ≤ 3 ∧ t.2.1 ≤ 3 ∧ t.2.2.natAbs ≤ 6 := by
  unfold zT zL
  split
  · decide
  · split <;> decide
theorem zT_len (n : Nat) : (zT n).length ≤ 7 := by
  unfold zT zL
  split
  · decide
  · split <;> decide
theorem joinT_mem {A B : List TM} {t : TM} (h : t ∈ joinT A B) : ∃ a ∈ A, ∃ b ∈ B, t = jnT a b := by
  obtain ⟨a, ha, h2⟩ := List.mem_flatMap.mp h
  obtain ⟨b, hb, rfl⟩ := List.mem_map.mp h2
  exact ⟨a, ha, b, hb, rfl⟩
theorem joinT_len (A B : List TM) : (joinT A B).length = A.length * B.length := by
  unfold joinT
  induction A with
  | nil => simp
  | cons a A ih => rw [List.flatMap_cons, List.length_append, ih, List.length_map, List.length_cons, Nat.succ_mul, Nat.add_comm]
theorem Fct.join {A : List TM} (h : Fct A) {n : Nat} : (∀ t ∈ joinT A (zT n), t.1.length ≤ 6 ∧ t.2.1 ≤ 6 ∧ t.2.2.natAbs ≤ 36) ∧ (joinT A (zT n)).length ≤ 14 := by
  refine ⟨fun t ht => ?_, ?_⟩
  · obtain ⟨a, ha, b, hb, rfl⟩ := joinT_mem ht
    obtain ⟨h1, h2⟩ := h.o a ha
    have := len_le_sum h1.j
    obtain ⟨z1, z2, z3⟩ := zT_sm n b hb
    refine ⟨by show (a.1 ++ b.1).length ≤ 6; rw [List.length_append]; omega, by show a.2.1 + b.2.1 ≤ 6; omega, ?_⟩
    show (a.2.2 * b.2.2).natAbs ≤ 36
    rw [Int.natAbs_mul]
    exact Nat.mul_le_mul h1.n z3
  · rw [joinT_len]
    exact Nat.mul_le_mul h.l (zT_len n)
theorem close_sm {n : Nat} (hn : n ≤ 3) {A : List TM} (h : ∀ t ∈ A, t.1.length ≤ 6 ∧ t.2.1 ≤ 6 ∧ t.2.2.natAbs ≤ 36) : ∀ t ∈ closeT n A, t.1.length ≤ 7 ∧ t.2.1 = 0 ∧ t.2.2.natAbs ≤ 108 := fun t ht => by
  obtain ⟨a, ha, rfl⟩ := List.mem_map.mp ht
  obtain ⟨h1, h2, h3⟩ := h a ha
  unfold clT
  split
  · refine ⟨by show a.1.length ≤ 7; omega, rfl, ?_⟩
    show (a.2.2 * (n : Int)).natAbs ≤ 108
    rw [Int.natAbs_mul, Int.natAbs_natCast]
    exact Nat.mul_le_mul h3 hn
  · exact ⟨by show (a.1 ++ [a.2.1]).length ≤ 7; rw [List.length_append, List.length_singleton]; omega, rfl, by show a.2.2.natAbs ≤ 108; omega⟩
theorem smT_of {t : TM} {x y z : Nat} (h : t.1.length ≤ x ∧ t.2.1 ≤ y ∧ t.2.2.natAbs ≤ z) (hx : x ≤ 1000 := by decide) (hy : y ≤ 1000 := by decide) (hz : z < 2 ^ 200 := by decide) : SmT t := ⟨by omega, by omega, Nat.lt_of_le_of_lt h.2.2 hz⟩
def ntE (c : Nat) (ns : List Int) (mk : Bool) (n : Nat) (a4 a5 a6 a7 a8 : Option (D × Fl)) : DEnv := [some (scr ns, .fz), some (.str (kindOf mk), .fz), some (.str (xs c 1), .fz), some (.int n, .fz), a4, a5, a6, a7, a8]
theorem nothing_eq {c n : Nat} {mk : Bool} {ns : List Int} (h : ns.length ≤ 63) (h1 : 1 ≤ n) (hn : n ≤ 3) : ∃ F O k, m__law_nothing [scr ns, .str (kindOf mk), .str (xs c 1), .int n] = some (tmL c (zeroT mk n F O k)) ∧ Fct F ∧ Fct O ∧ k ≤ 3 := by
  obtain ⟨N, hN⟩ := number_eq h (k := 10) (by decide)
  obtain ⟨k1, e1, k1l⟩ : ∃ k : Nat, 1 + (N : Int) % 2 = k ∧ k ≤ 2 := ⟨1 + N % 2, by omega, by omega⟩
  obtain ⟨k2, e2, k2l⟩ : ∃ k : Nat, 1 + (N : Int) / 2 % 2 = k ∧ k ≤ 2 := ⟨1 + N / 2 % 2, by omega, by omega⟩
  obtain ⟨k3, e3, k3l⟩ : ∃ k : Nat, (N : Int) / 4 % 4 = k ∧ k ≤ 3 := ⟨N / 4 % 4, by omega, by omega⟩
  obtain ⟨F, hF, F1, F2⟩ := powers_eq (c := c) (mk := true) (first := 11) (many := k1) (ds := [0, 1, 2, 3]) h (by omega) (by decide) (by decide) (by decide)
  obtain ⟨O, hO, O1, O2⟩ := powers_eq (c := c) (mk := true) (first := 13) (many := k2) (ds := [1, 0, 2, 3]) h (by omega) (by decide) (by decide) (by decide)
  have fF : Fct F := ⟨fun t ht => ⟨(F2 t ht).1, by have := (F2 t ht).2; simp at this; omega⟩, by omega⟩
  have fO : Fct O := ⟨fun t ht => ⟨(O2 t ht).1, by have := (O2 t ht).2; simp at this; omega⟩, by omega⟩
  have hz := newton_eq (c := c) h1 hn
  have zsm : ∀ t ∈ zT n, SmT t := fun t ht => smT_of (zT_sm n t ht)
  have zl := zT_len n
  obtain ⟨jF1, jF2⟩ := fF.join (n := n)
  obtain ⟨jO1, jO2⟩ := fO.join (n := n)
  have hjF := joined_eq (c := c) fF.sm zsm (by have := Nat.mul_le_mul fF.l zl; omega)
  have hjO := joined_eq (c := c) fO.sm zsm (by have := Nat.mul_le_mul fO.l zl; omega)
  have hcl := closed_eq (c := c) hn (fun t ht => smT_of (jO1 t ht)) (by omega)
  have cs := close_sm hn jO1
  have cl : (closeT n (joinT O (zT n))).length ≤ 14 := by unfold closeT; rw [List.length_map]; exact jO2
  have hjX := joined_eq (c := c) (A := closeT n (joinT O (zT n))) (B := [([], k3, 1)]) (fun t ht => by obtain ⟨a, b, d⟩ := cs t ht; exact ⟨by omega, by omega, Nat.lt_of_le_of_lt d (by decide)⟩) (fun t ht => by
    have : t = ([], k3, 1) := by simpa using ht
    subst this
    exact ⟨by simp, by show k3 ≤ 1000; omega, by show (1 : Nat) < 2 ^ 200; decide⟩) (by simp; omega)
  let i4 : Option (D × Fl) := some (tmL c (zT n), .fz)
  let i5 : Option (D × Fl) := some (.int N, .fz)
  let i6 : Option (D × Fl) := some (tmL c F, .fz)
  let i7 : Option (D × Fl) := some (tmL c O, .fz)
  let i8 : Option (D × Fl) := some (tmL c (closeT n (joinT O (zT n))), .fz)
  let EE := ntE c ns mk n
  refine ⟨F, O, k3, ?_, fF, fO, k3l⟩
  have s4 : dSet 4 (dCall 2 m__law_newton [] (dCons (dVar 3) (dCons (dVar 2) dNil))) (EE none none none none none) = some (.nx (EE i4 none none none none)) := E.set (E.call (xs := [.int n, .str (xs c 1)]) rfl rfl hz) rfl
  have s5 : dSet 5 (dCall 2 m__law_number [] (dCons (dVar 0) (dCons (dC (.int 10)) dNil))) (EE i4 none none none none) = some (.nx (EE i4 i5 none none none)) := E.set (E.call (xs := [scr ns, .int (10 : Nat)]) rfl rfl hN) rfl
  have s6 : dSet 6 (dCall 6 m__law_powers [] (dCons (dVar 0) (dCons (dC (.int 11)) (dCons (dBin gAdd (dC (.int 1)) (dBin (gIc (fun _ j => 0 < j) fun i j => i % j) (dMap gInt (dVar 5)) (dC (.int 2)))) (dCons (dLst (dCons (dC (.int 0)) (dCons (dC (.int 1)) (dCons (dC (.int 2)) (dCons (dC (.int 3)) dNil))))) (dCons (dVar 2) (dCons (dC (.str "matrix")) dNil))))))) (EE i4 i5 none none none) = some (.nx (EE i4 i5 i6 none none)) := by
    refine E.set (E.call (xs := [scr ns, .int (11 : Nat), .int k1, dgs [0, 1, 2, 3], .str (xs c 1), .str (kindOf true)]) ?_ rfl hF) rfl
    refine E.cons rfl (E.cons rfl (E.cons (E.bin (x := .int 1) (y := .int ((N : Int) % 2)) rfl (E.bin (x := .int N) (y := .int 2) rfl rfl (gMod (by decide))) ?_) (E.cons (E.lst rfl (by decide)) rfl)))
    rw [← e1]; rfl
  have s7 : dSet 7 (dCall 6 m__law_powers [] (dCons (dVar 0) (dCons (dC (.int 13)) (dCons (dBin gAdd (dC (.int 1)) (dBin (gIc (fun _ j => 0 < j) fun i j => i % j) (dMap gInt (dBin (gIc CDivW fun i j => i / j) (dVar 5) (dC (.int 2)))) (dC (.int 2)))) (dCons (dLst (dCons (dC (.int 1)) (dCons (dC (.int 0)) (dCons (dC (.int 2)) (dCons (dC (.int 3)) dNil))))) (dCons (dVar 2) (dCons (dC (.str "matrix")) dNil))))))) (EE i4 i5 i6 none none) = some (.nx (EE i4 i5 i6 i7 none)) := by
    refine E.set (E.call (xs := [scr ns, .int (13 : Nat), .int k2, dgs [1, 0, 2, 3], .str (xs c 1), .str (kindOf true)]) ?_ rfl hO) rfl
    refine E.cons rfl (E.cons rfl (E.cons (E.bin (x := .int 1) (y := .int ((N : Int) / 2 % 2)) rfl (E.bin (x := .int ((N : Int) / 2)) (y := .int 2) (E.map (x := .int ((N : Int) / 2)) (E.bin (x := .int N) (y := .int 2) rfl rfl (gDiv (by decide) (by decide))) rfl) rfl (gMod (by decide))) ?_) (E.cons (E.lst rfl (by decide)) rfl)))
    rw [← e2]; rfl
  have s8 : dSet 8 (dCall 2 m__law_closed [] (dCons (dCall 2 m__law_joined [] (dCons (dVar 7) (dCons (dVar 4) dNil))) (dCons (dVar 3) dNil))) (EE i4 i5 i6 i7 none) = some (.nx (EE i4 i5 i6 i7 i8)) :=
    E.set (E.call (xs := [tmL c (joinT O (zT n)), .int n]) (E.cons (E.call (xs := [tmL c O, tmL c (zT n)]) rfl rfl hjO) rfl) rfl hcl) rfl
  refine E.runD_rt (E.seq s4 (E.seq s5 (E.seq s6 (E.seq s7 (E.seq s8 ?_)))))
  cases mk with
  | false => exact E.seq_rt (E.if_t (E.bb (E.bin (x := .str (kindOf false)) (y := .str "number") rfl rfl (gEq_str_t (by decide +kernel)))) (E.ret rfl))
  | true =>
    refine E.seq (E.if_f (E.bb (E.bin (x := .str (kindOf true)) (y := .str "number") rfl rfl (gEq_str_f (by decide +kernel)))) E.next) (E.ret (E.bin (x := tmL c (joinT F (zT n))) (y := tmL c (joinT (closeT n (joinT O (zT n))) [([], k3, 1)])) (E.call (xs := [tmL c F, tmL c (zT n)]) rfl rfl hjF) (E.call (xs := [tmL c (closeT n (joinT O (zT n))), tmL c [([], k3, 1)]]) (E.cons rfl (E.cons (E.lst (xs := [tmD c ([], k3, 1)]) (E.cons (E.tup (xs := [.lst [], .str (xs c k3), .int 1]) (E.cons (E.lst rfl (by decide)) (E.cons (E.bin (x := .str (xs c 1)) (y := .int k3) rfl (E.bin (x := .int ((N : Int) / 4)) (y := .int 4) (E.map (x := .int ((N : Int) / 4)) (E.bin (x := .int N) (y := .int 4) rfl rfl (gDiv (by decide) (by decide))) rfl) rfl ?_) (gMulX c (by omega))) rfl)) (by show (3 : Nat) ≤ 100000; decide)) rfl) (by show (1 : Nat) ≤ 100000; decide)) rfl)) rfl hjX) ?_))
    · rw [← e3]; exact gMod (by decide)
    · unfold tmL
      have hs : smallL = 100000 := rfl
      rw [gAdd_lst (by rw [List.length_map, List.length_map, joinT_len (closeT n (joinT O (zT n)))]; simp; omega), ← List.map_append]
      rfl
end Pd73

/-! k73, the law's defs: polynomials of terms. -/
namespace Pd73
open PySem PySem.Spec PyProof.Rows L2 Pd
local macro_rules | `(tactic| trivial) => `(tactic| first
  | assumption
  | (with_reducible apply E.var) <;> rfl
  | with_reducible exact E.next
  | (with_reducible apply E.bin) <;> trivial
  | (with_reducible apply E.map) <;> trivial
  | (with_reducible apply E.cons) <;> trivial
  | (with_reducible apply E.neg) <;> trivial
  | (with_reducible apply E.bb) <;> trivial
  | (with_reducible apply E.not) <;> trivial
  | (with_reducible apply E.tup) <;> trivial
  | (with_reducible apply E.lst) <;> trivial
  | (with_reducible apply E.call) <;> trivial
  | (with_reducible apply E.make) <;> trivial
  | (with_reducible apply E.ixO) <;> trivial
  | (with_reducible apply E.set) <;> trivial
  | (with_reducible apply E.setO) <;> trivial
  | (with_reducible apply E.ret) <;> trivial
  | (with_reducible apply E.app) <;> trivial
  | (with_reducible apply E.rg1) <;> trivial
  | (with_reducible apply E.runD_rt) <;> trivial
  | (with_reducible apply gMod) <;> trivial
  | (with_reducible apply gDiv) <;> trivial
  | (with_reducible apply gMul_int) <;> trivial
  | rfl
  | decide
  | omega)
/-- a term of degree at most 20 -/
structure Dg (mk : Bool) (t : TM) : Prop where
  j : ∀ j ∈ t.1, 1 ≤ j
  w : mk = false → t.2.1 = 0
  d : t.1.sum + t.2.1 ≤ 20
  n : t.2.2.natAbs < 2 ^ 160
def rawP (c den : Nat) (ts : List TM) : PL := ts.map fun t => (ku c t.1 t.2.1, mkRat t.2.2 den)
def polyP (c den : Nat) (ts : List TM) : PL := canon (acc [] (rawP c den ts))
def itT (c den : Nat) (t : TM) : IT := ((false, t.1.map (xs c)), xs c t.2.1, mkRat t.2.2 den)
theorem itK_T (c den : Nat) (ts : List TM) : (ts.map (itT c den)).map itK = rawP c den ts := by
  unfold rawP
  rw [List.map_map]
  refine List.map_congr_left fun t _ => ?_
  show (tk (t.1.map (xs c)) (xs c t.2.1), mkRat t.2.2 den) = _
  rw [tk_uk]
  rfl
theorem itD_T (c den : Nat) (t : TM) : itD (itT c den t) = .tup [.lst (cyL c t.1), .str (xs c t.2.1), rD (mkRat t.2.2 den)] := by
  show D.tup [.lst ((t.1.map (xs c)).map .str), .str (xs c t.2.1), rD (mkRat t.2.2 den)] = _
  rw [List.map_map]
  rfl
theorem in_mk {den : Nat} (h : 0 < den) (i : Int) : In den (mkRat i den) ∧ zz den (mkRat i den) = i := by
  refine in_of ?_
  rw [Rat.mkRat_eq_div]
  have hz : (den : Rat) ≠ 0 := by
    intro z
    have : den = 0 := by exact_mod_cast z
    omega
  exact Rat.div_mul_cancel hz
def nb : List TM → Nat
  | [] => 0
  | t :: ts => t.2.2.natAbs + nb ts
theorem nb_le {ts : List TM} {b : Nat} (h : ∀ t ∈ ts, t.2.2.natAbs ≤ b) : nb ts ≤ ts.length * b := by
  induction ts with
  | nil => exact Nat.zero_le _
  | cons t ts ih =>
    have := h t List.mem_cons_self
    have := ih fun u hu => h u (List.mem_cons_of_mem _ hu)
    rw [nb, List.length_cons, Nat.succ_mul]
    omega
theorem fit_raw {c den : Nat} (h : 0 < den) : ∀ ts : List TM, Fit den (nb ts) (rawP c den ts)
  | [] => fit_nil den
  | t :: ts => by
    have ih := fit_raw (c := c) h ts
    obtain ⟨m1, m2⟩ := in_mk h t.2.2
    refine ⟨fun e he => ?_, ?_⟩
    · rcases List.mem_cons.mp he with z | z
      · rw [z]; exact m1
      · exact ih.i e z
    · show (zz den (mkRat t.2.2 den)).natAbs + nr den (rawP c den ts) ≤ t.2.2.natAbs + nb ts
      rw [m2]
      exact Nat.add_le_add_left ih.n _
theorem nd_raw (l : PL) : ((acc [] l).map (·.1)).Nodup := acc_nodup (by simp)
structure PolyOk (mk : Bool) (den : Nat) (ts : List TM) : Prop where
  t : ∀ t ∈ ts, Dg mk t
  l : ts.length ≤ 100
  d0 : 0 < den
  d1 : den ≤ 100
theorem PolyOk.nb {mk : Bool} {den : Nat} {ts : List TM} (h : PolyOk mk den ts) : nb ts ≤ 2 ^ 170 := by
  have h1 := nb_le (ts := ts) (b := 2 ^ 160) fun t ht => Nat.le_of_lt (h.t t ht).n
  have h2 := Nat.mul_le_mul_right (2 ^ 160) h.l
  exact Nat.le_trans h1 (Nat.le_trans h2 (by decide))
theorem Dg.le {mk : Bool} {t : TM} (h : Dg mk t) {j : Nat} (hj : j ∈ t.1) : j ≤ 20 := by
  have := mem_le_sum hj
  have := h.d
  omega
theorem law_poly_eq {c den : Nat} {mk : Bool} {ts : List TM} (h : PolyOk mk den ts) : m__law_poly [.str (kindOf mk), tmL c ts, .int den] = some (pD (kindOf mk) (polyP c den ts)) := by
  have hs : smallL = 100000 := rfl
  have d0 := h.d0
  have d1 := h.d1
  have hc : compL (.tp [3, 4, 5]) dYes (dTup (dCons (dMap gList (dVar 3)) (dCons (dVar 4) (dCons (dMake 3 m_Ratio___init___2 [] (dCons (dVar 5) (dCons (dVar 2) dNil))) dNil)))) (ts.map (tmD c)) (wipeE [some (.str (kindOf mk), .fz), some (tmL c ts, .fz), some (.int den, .fz), none, none, none] [3, 4, 5]) = some ((ts.map (itT c den)).map itD) := by
    refine E.comp (by simp) fun k x y hx hy => ?_
    obtain ⟨t, h1, rfl⟩ := map_at hx
    obtain ⟨u, h2, rfl⟩ := map_at hy
    rw [List.getElem?_map, h1] at h2
    cases h2
    rw [itD_T]
    have hr := dMk (n := t.2.2) (d := (den : Int)) (by omega) (by rw [Int.natAbs_natCast]; exact Nat.lt_of_le_of_lt d1 (by decide))
    rw [Int.toNat_natCast] at hr
    exact ⟨_, rfl, rfl, E.tup (E.cons (E.map (x := .lst (cyL c t.1)) rfl rfl) (E.cons rfl (E.cons (E.make (xs := [.int t.2.2, .int den]) rfl rfl hr) rfl))) (by show (3 : Nat) ≤ 100000; decide)⟩
  have hi := Poly_init (kind := kindOf mk) (ts := ts.map (itT c den)) (m := den) (c := nb ts) d0 (Nat.lt_of_le_of_lt d1 (by decide)) (fun t ht => by
    obtain ⟨u, hu, rfl⟩ := List.mem_map.mp ht
    have g := h.t u hu
    refine ⟨fun hk => ?_, fun s hs2 => ?_, ?_⟩
    · have : mk = false := by
        cases mk with
        | false => rfl
        | true => exact absurd hk (by decide +kernel)
      show xs c u.2.1 = _
      rw [g.w this]
      rfl
    · obtain ⟨j, hj, rfl⟩ := List.mem_map.mp hs2
      rw [xs_len]
      have := g.le hj
      omega
    · show (u.1.map (xs c)).length ≤ _
      rw [List.length_map]
      have := len_le_sum g.j
      have := g.d
      omega) (by rw [itK_T]; exact fit_raw d0 ts) (Nat.lt_of_le_of_lt h.nb (Nat.pow_lt_pow_right (by decide) (by decide))) (by rw [List.length_map]; have := h.l; omega)
  rw [itK_T] at hi
  exact E.runD_rt (E.ret (E.make (xs := [.str (kindOf mk), .lst ((ts.map (itT c den)).map itD)]) (E.cons rfl (E.cons (E.lc (l := ts.map (tmD c)) (E.it_l rfl) (by rw [List.length_map]; have := h.l; omega) hc) rfl)) rfl hi))
theorem poly_inp {c den : Nat} {mk : Bool} {ts : List TM} (h : PolyOk mk den ts) : InP c mk den (nb ts) (polyP c den ts) := by
  have d0 := h.d0
  have d1 := h.d1
  have nd := nd_raw (rawP c den ts)
  refine ⟨canon_can nd, fun e he => ?_, fit_canon nd ?_, d0, ?_, ?_, ?_⟩
  · rcases acc_keys e.1 (canon_keys e.1 (List.mem_map.mpr ⟨e, he, rfl⟩)) with z | z
    · cases z
    · obtain ⟨x, hx, ex⟩ := List.mem_map.mp z
      obtain ⟨t, ht, rfl⟩ := List.mem_map.mp hx
      have g := h.t t ht
      refine ⟨t.1.mergeSort nle, t.2.1, ex.symm, srt_sort _, fun j hj => g.j j ((List.mergeSort_perm t.1 nle).mem_iff.mp hj), g.w, ?_⟩
      rw [sum_perm (List.mergeSort_perm t.1 nle)]
      exact g.d
  · have := fit_acc (fit_nil den) (fit_raw (c := c) d0 ts)
    exact this.mono (by omega)
  · have h1 := canon_len (acc [] (rawP c den ts))
    have h2 := acc_len (rawP c den ts) []
    have h3 : (rawP c den ts).length = ts.length := by unfold rawP; rw [List.length_map]
    have := h.l
    unfold polyP
    simp only [List.length_nil] at h2
    omega
  · exact Nat.lt_of_le_of_lt (Nat.mul_le_mul_right _ d1) (by decide)
  · exact Nat.lt_of_le_of_lt (Nat.mul_le_mul_right _ h.nb) (by decide)
/-! ### functionals of terms -/
def sumT (f : List Nat → Nat → Rat) : List TM → Rat
  | [] => 0
  | t :: ts => (t.2.2 : Rat) * f t.1 t.2.1 + sumT f ts
theorem sumT_congr {f h : List Nat → Nat → Rat} : ∀ {l : List TM}, (∀ t ∈ l, f t.1 t.2.1 = h t.1 t.2.1) → sumT f l = sumT h l
  | [], _ => rfl
  | t :: l, e => by rw [sumT, sumT, e t List.mem_cons_self, sumT_congr fun u hu => e u (List.mem_cons_of_mem _ hu)]
theorem sumT_app (f : List Nat → Nat → Rat) (b : List TM) : ∀ a : List TM, sumT f (a ++ b) = sumT f a + sumT f b
  | [] => by simp only [List.nil_append, sumT]; grind
  | t :: a => by rw [List.cons_append, sumT, sumT, sumT_app f b a]; grind
theorem S_raw (c den : Nat) (g : KY → Rat) : ∀ ts : List TM, S g (rawP c den ts) = (1 / (den : Rat)) * sumT (fun ns w => g (ku c ns w)) ts
  | [] => by show (0 : Rat) = (1 / (den : Rat)) * 0; grind
  | t :: ts => by
    show mkRat t.2.2 den * g (ku c t.1 t.2.1) + S g (rawP c den ts) = _
    rw [S_raw c den g ts, Rat.mkRat_eq_div, Rat.div_def, Rat.div_def]
    simp only [sumT]
    grind
theorem S_poly (c den : Nat) (g : KY → Rat) (ts : List TM) : S g (polyP c den ts) = (1 / (den : Rat)) * sumT (fun ns w => g (ku c ns w)) ts := by
  unfold polyP
  rw [S_canon g (nd_raw _), S_acc g _ (by simp), S_raw]
  simp only [S]
  grind
end Pd73

/-! k73: the zero polynomial is reduced to nothing. -/
namespace Pd73
open PySem PySem.Spec PyProof.Rows L2 Pd

theorem sumT_one (f : List Nat → Nat → Rat) (a : TM) : ∀ Z : List (Int × List Nat × Nat), sumT f ((Z.map fun z => ((z.2.1, z.2.2, z.1) : TM)).map (jnT a)) = (a.2.2 : Rat) * sumZ (fun ns u => f (a.1 ++ ns) (a.2.1 + u)) Z
  | [] => by show (0 : Rat) = _ * 0; grind
  | z :: Z => by
    show ((a.2.2 * z.1 : Int) : Rat) * f (a.1 ++ z.2.1) (a.2.1 + z.2.2) + sumT f ((Z.map fun z => ((z.2.1, z.2.2, z.1) : TM)).map (jnT a)) = _
    rw [sumT_one f a Z, Rat.intCast_mul]
    simp only [sumZ]
    grind
theorem sumT_joinZ (f : List Nat → Nat → Rat) (n : Nat) (h : ∀ (ns0 : List Nat) (v : Nat), sumZ (fun ns u => f (ns0 ++ ns) (v + u)) (zL n) = 0) : ∀ A : List TM, sumT f (joinT A (zT n)) = 0
  | [] => rfl
  | a :: A => by
    show sumT f ((zT n).map (jnT a) ++ joinT A (zT n)) = 0
    rw [sumT_app, sumT_joinZ f n h A]
    unfold zT
    rw [sumT_one, h]
    grind
theorem sumT_close (f : List Nat → Nat → Rat) (n : Nat) : ∀ A : List TM, sumT f (closeT n A) = sumT (fun ns m => if m = 0 then n * f ns 0 else f (ns ++ [m]) 0) A
  | [] => rfl
  | a :: A => by
    show ((clT n a).2.2 : Rat) * f (clT n a).1 (clT n a).2.1 + sumT f (closeT n A) = _
    rw [sumT_close f n A]
    simp only [sumT]
    congr 1
    unfold clT
    split
    · show ((a.2.2 * (n : Int) : Int) : Rat) * f a.1 0 = a.2.2 * (n * f a.1 0)
      rw [Rat.intCast_mul]
      have : (((n : Nat) : Int) : Rat) = (n : Rat) := rfl
      rw [this]
      grind
    · rfl
theorem sumT_pow (f : List Nat → Nat → Rat) (k : Nat) : ∀ A : List TM, (∀ t ∈ A, t.2.1 = 0) → sumT f (joinT A [([], k, 1)]) = sumT (fun ns _ => f ns k) A
  | [], _ => rfl
  | a :: A, h => by
    show ((a.2.2 * 1 : Int) : Rat) * f (a.1 ++ []) (a.2.1 + k) + sumT f (joinT A [([], k, 1)]) = (a.2.2 : Rat) * f a.1 k + sumT (fun ns _ => f ns k) A
    rw [sumT_pow f k A fun t ht => h t (List.mem_cons_of_mem _ ht), h a List.mem_cons_self, List.append_nil, Int.mul_one, Nat.zero_add]
theorem close_w (n : Nat) (A : List TM) : ∀ t ∈ closeT n A, t.2.1 = 0 := fun t ht => by
  obtain ⟨a, _, rfl⟩ := List.mem_map.mp ht
  unfold clT
  split <;> rfl
section
variable {c n : Nat} {mk : Bool}
theorem zero_kill (hn : n ≤ 3) (h1 : 1 ≤ n) (g : KY → Rat) (F O : List TM) (k : Nat) : sumT (RM c n mk g) (zeroT mk n F O k) = 0 := by
  have tr : ∀ w, (mk = false → w = 0) → sumT (fun ns m => RT c n mk g ns m w) (joinT O (zT n)) = 0 := fun w hw => sumT_joinZ _ n (fun ns0 v => RM_zeroT hn h1 g ns0 v hw) O
  unfold zeroT
  cases mk with
  | false =>
    show sumT (RM c n false g) (closeT n (joinT O (zT n))) = 0
    rw [sumT_close]
    exact tr 0 fun _ => rfl
  | true =>
    show sumT (RM c n true g) (joinT F (zT n) ++ joinT (closeT n (joinT O (zT n))) [([], k, 1)]) = 0
    rw [sumT_app, sumT_joinZ _ n (fun ns0 v => RM_zeroW hn h1 g ns0 v) F, sumT_pow _ k _ (close_w n _), sumT_close (fun ns _ => RM c n true g ns k)]
    have := tr k (fun h => by cases h)
    unfold RT at this
    rw [this]
    grind
theorem zT_pos (n : Nat) : ∀ t ∈ zT n, (∀ j ∈ t.1, 1 ≤ j) ∧ t.1.sum + t.2.1 ≤ 3 ∧ t.2.2.natAbs ≤ 6 := by
  unfold zT zL
  split
  · decide
  · split <;> decide
theorem join_dg {A : List TM} (h : Fct A) : ∀ t ∈ joinT A (zT n), Dg true t ∧ t.1.sum + t.2.1 ≤ 6 ∧ t.2.2.natAbs ≤ 36 := fun t ht => by
  obtain ⟨a, ha, b, hb, rfl⟩ := joinT_mem ht
  obtain ⟨h1, h2⟩ := h.o a ha
  obtain ⟨z1, z2, z3⟩ := zT_pos n b hb
  have hd : (a.1 ++ b.1).sum + (a.2.1 + b.2.1) ≤ 6 := by rw [List.sum_append_nat]; omega
  have hc : (a.2.2 * b.2.2).natAbs ≤ 36 := by rw [Int.natAbs_mul]; exact Nat.mul_le_mul h1.n z3
  refine ⟨⟨fun j hj => ?_, (fun q => by cases q), by show (a.1 ++ b.1).sum + (a.2.1 + b.2.1) ≤ 20; omega, Nat.lt_of_le_of_lt hc (by decide)⟩, hd, hc⟩
  rcases List.mem_append.mp hj with q | q
  · exact h1.j j q
  · exact z1 j q
theorem close_dg (hn : n ≤ 3) {A : List TM} (h : ∀ t ∈ A, Dg true t ∧ t.1.sum + t.2.1 ≤ 6 ∧ t.2.2.natAbs ≤ 36) : ∀ t ∈ closeT n A, Dg false t ∧ t.1.sum ≤ 6 ∧ t.2.2.natAbs ≤ 108 := fun t ht => by
  obtain ⟨a, ha, rfl⟩ := List.mem_map.mp ht
  obtain ⟨h1, h2, h3⟩ := h a ha
  unfold clT
  split
  · have hc : (a.2.2 * (n : Int)).natAbs ≤ 108 := by
      rw [Int.natAbs_mul, Int.natAbs_natCast]
      exact Nat.mul_le_mul h3 hn
    exact ⟨⟨h1.j, fun _ => rfl, by show a.1.sum + 0 ≤ 20; omega, Nat.lt_of_le_of_lt hc (by decide)⟩, by show a.1.sum ≤ 6; omega, hc⟩
  · have hd : (a.1 ++ [a.2.1]).sum ≤ 6 := by rw [List.sum_append_nat, List.sum_singleton]; omega
    refine ⟨⟨fun j hj => ?_, fun _ => rfl, by show (a.1 ++ [a.2.1]).sum + 0 ≤ 20; omega, Nat.lt_of_le_of_lt h3 (by decide)⟩, hd, by show a.2.2.natAbs ≤ 108; omega⟩
    rcases List.mem_append.mp hj with q | q
    · exact h1.j j q
    · have : j = a.2.1 := by simpa using q
      omega
theorem zero_ok (hn : n ≤ 3) {F O : List TM} (hF : Fct F) (hO : Fct O) {k : Nat} (hk : k ≤ 3) : PolyOk mk 6 (zeroT mk n F O k) := by
  have cd := close_dg hn (join_dg (n := n) hO)
  have lF := (hF.join (n := n)).2
  have lO := (hO.join (n := n)).2
  have lc : (closeT n (joinT O (zT n))).length ≤ 14 := by unfold closeT; rw [List.length_map]; exact lO
  unfold zeroT
  cases mk with
  | false => exact ⟨fun t ht => (cd t ht).1, by show (closeT n (joinT O (zT n))).length ≤ 100; omega, by decide, by decide⟩
  | true =>
    refine ⟨fun t ht => ?_, by show (joinT F (zT n) ++ joinT (closeT n (joinT O (zT n))) [([], k, 1)]).length ≤ 100; rw [List.length_append, joinT_len (closeT n (joinT O (zT n)))]; simp; omega, by decide, by decide⟩
    rcases List.mem_append.mp ht with q | q
    · exact (join_dg hF t q).1
    · obtain ⟨a, ha, b, hb, rfl⟩ := joinT_mem q
      have eb : b = ([], k, 1) := by simpa using hb
      subst eb
      obtain ⟨g1, g2, g3⟩ := cd a ha
      have hw := close_w n _ a ha
      refine ⟨fun j hj => ?_, (fun q => by cases q), ?_, ?_⟩
      · have : j ∈ a.1 ++ [] := hj
        rw [List.append_nil] at this
        exact g1.j j this
      · show (a.1 ++ []).sum + (a.2.1 + k) ≤ 20
        rw [List.append_nil]; omega
      · show (a.2.2 * 1).natAbs < 2 ^ 160
        rw [Int.mul_one]; exact g1.n
/-- reduced: nothing -/
theorem zero_S (hn : n ≤ 3) (h1 : 1 ≤ n) {F O : List TM} (hF : Fct F) (hO : Fct O) {k : Nat} (hk : k ≤ 3) (g : KY → Rat) : S (MF c n mk g) (polyP c 6 (zeroT mk n F O k)) = 0 := by
  have ok := zero_ok (mk := mk) hn hF hO hk
  rw [S_poly, sumT_congr (h := RM c n mk g) fun t ht => MF_ku hn h1 g t.1 (ok.t t ht).w, zero_kill hn h1]
  grind
end
end Pd73

/-! k73, the law's defs: matrices. -/
namespace Pd73
open PySem PySem.Spec PyProof.Rows L2 Pd
local macro_rules | `(tactic| trivial) => `(tactic| first
  | assumption
  | (with_reducible apply E.var) <;> rfl
  | with_reducible exact E.next
  | (with_reducible apply E.bin) <;> trivial
  | (with_reducible apply E.map) <;> trivial
  | (with_reducible apply E.cons) <;> trivial
  | (with_reducible apply E.neg) <;> trivial
  | (with_reducible apply E.bb) <;> trivial
  | (with_reducible apply E.not) <;> trivial
  | (with_reducible apply E.tup) <;> trivial
  | (with_reducible apply E.lst) <;> trivial
  | (with_reducible apply E.call) <;> trivial
  | (with_reducible apply E.make) <;> trivial
  | (with_reducible apply E.ixO) <;> trivial
  | (with_reducible apply E.set) <;> trivial
  | (with_reducible apply E.setO) <;> trivial
  | (with_reducible apply E.ret) <;> trivial
  | (with_reducible apply E.app) <;> trivial
  | (with_reducible apply E.rg1) <;> trivial
  | (with_reducible apply E.runD_rt) <;> trivial
  | (with_reducible apply gMod) <;> trivial
  | (with_reducible apply gDiv) <;> trivial
  | (with_reducible apply gMul_int) <;> trivial
  | rfl
  | decide
  | omega)
abbrev MI := Nat → Nat → Int
def rowD (n : Nat) (r : Nat → Int) : D := .lst ((List.range n).map fun j => .int (r j))
def rowsD (n : Nat) (f : MI) : D := .lst ((List.range n).map fun i => rowD n (f i))
def sI (n : Nat) (h : Nat → Int) : Int := ((List.range n).map h).sum
def mulI (n : Nat) (f g : MI) : MI := fun i j => sI n fun k => f i k * g k j
def oneI : MI := fun i j => if i = j then 1 else 0
theorem rowD_ix {n i : Nat} (r : Nat → Int) (h : i < n) : gIx (rowD n r) (.int (i : Int)) = some (.int (r i)) := atI_nat (by rw [List.getElem?_map, List.getElem?_range h]; rfl)
theorem rowsD_ix {n i : Nat} (f : MI) (h : i < n) : gIx (rowsD n f) (.int (i : Int)) = some (rowD n (f i)) := atI_nat (by rw [List.getElem?_map, List.getElem?_range h]; rfl)
theorem rowsD_len (n : Nat) (f : MI) : gLen (rowsD n f) = some (.int (n : Nat)) := by simp [gLen, rowsD]
theorem rowD_len (n : Nat) (f : Nat → Int) : gLen (rowD n f) = some (.int (n : Nat)) := by simp [gLen, rowD]
theorem range_len (n : Nat) : (rangeD 0 (n : Int)).length = n := by rw [rangeD0', List.length_map, List.length_range]
/-- a comprehension over range(n) -/
theorem lc_range {i n : Nat} {env : DEnv} {f g : DP} {vs : List Nat} {h : Nat → D} (hn : n ≤ 1000) (hg : g env = some (.int (n : Int))) (hf : ∀ k, k < n → f ((wipeE env vs).set i (some (.int (k : Int), .fz))) = some (h k)) : dLc vs (.nm i) (dRg1 (dCons g dNil)) dYes f env = some (.lst ((List.range n).map h)) := by
  have hs : smallL = 100000 := rfl
  refine E.lc (E.rg1 hg (by omega)) (by rw [range_len]; omega) ?_
  rw [rangeD0']
  refine E.comp (by simp) fun k x y hx hy => ?_
  obtain ⟨h1, rfl⟩ := range_at hx
  rw [List.getElem?_map, List.getElem?_range h1] at hy
  cases hy
  exact ⟨_, rfl, rfl, hf k h1⟩
theorem gSum_ints (n : Nat) (h : Nat → Int) : gSum (.lst ((List.range n).map fun k => .int (h k))) = some (.int (sI n h)) := by
  have e : ((List.range n).map fun k => D.int (h k)) = ((List.range n).map h).map D.int := by rw [List.map_map]; rfl
  unfold gSum
  dsimp only
  rw [e, intsD_map]
  rfl
/-! ### times -/
def bTimes : DS := (dApp 2 (dLc [4] (.nm 4) (dRg1 (dCons (dMap gLen (dVar 1)) dNil)) dYes (dMap gSum (dLc [5] (.nm 5) (dRg1 (dCons (dMap gLen (dVar 1)) dNil)) dYes (dBin gMul (dBin gIx (dVar 3) (dVar 5)) (dBin gIx (dBin gIx (dVar 1) (dVar 5)) (dVar 4)))))))
theorem times_eq {n : Nat} (hn : n ≤ 3) {f g : MI} (hw : ∀ i j k, i < n → j < n → k < n → CMulW (f i k) (g k j)) : m__law_times [rowsD n f, rowsD n g] = some (rowsD n (mulI n f g)) := by
  have hs : smallL = 100000 := rfl
  obtain ⟨e, g1, g2⟩ := E.loop (tt := .nm 3) (body := bTimes) (l := (List.range n).map fun i => rowD n (f i)) (P := fun a e => ∃ x3, e = [some (rowsD n f, .fz), some (rowsD n g, .fz), some (.lst ((List.range a).map fun i => rowD n (mulI n f g i)), .ow), x3, none, none]) (fun a e d hd0 hP => by
    obtain ⟨x3, rfl⟩ := hP
    have ha : a < n := by
      have := (List.getElem?_eq_some_iff.mp hd0).1
      rwa [List.length_map, List.length_range] at this
    rw [List.getElem?_map, List.getElem?_range ha] at hd0
    cases hd0
    refine ⟨_, [some (rowsD n f, .fz), some (rowsD n g, .fz), some (.lst ((List.range (a + 1)).map fun i => rowD n (mulI n f g i)), .ow), some (rowD n (f a), .fz), none, none], rfl, ?_, _, rfl⟩
    refine E.app (xs := (List.range a).map fun i => rowD n (mulI n f g i)) (fl := .ow) (d := rowD n (mulI n f g a)) rfl (by decide) (by rw [List.length_map, List.length_range]; omega) ?_ (by rw [List.range_succ, List.map_append]; rfl)
    refine lc_range (by omega) (E.map (x := rowsD n g) rfl (rowsD_len n g)) fun j hj => ?_
    refine E.map (lc_range (i := 5) (h := fun k => .int (f a k * g k j)) (by omega) (E.map (x := rowsD n g) rfl (rowsD_len n g)) fun k hk => ?_) (gSum_ints n _)
    exact E.bin (E.bin (x := rowD n (f a)) (y := .int (k : Int)) rfl rfl (rowD_ix _ hk)) (E.bin (x := rowD n (g k)) (y := .int (j : Int)) (E.bin (x := rowsD n g) (y := .int (k : Int)) rfl rfl (rowsD_ix g hk)) rfl (rowD_ix _ hj)) (gMul_int (hw a j k ha hj hk))) (env := [some (rowsD n f, .fz), some (rowsD n g, .fz), some (.lst [], .ow), none, none, none]) ⟨none, rfl⟩
  obtain ⟨x3, rfl⟩ := g2
  rw [List.length_map, List.length_range] at g1
  exact E.runD_rt (E.seq (e1 := [some (rowsD n f, .fz), some (rowsD n g, .fz), some (.lst [], .ow), none, none, none]) (E.setO (E.lst rfl (by decide)) rfl) (E.seq (E.for_ (E.it_l rfl) g1) (E.frz_ (d := rowsD n (mulI n f g)) (fl := .ow) rfl (E.ret rfl))))
theorem one_eq {n : Nat} (hn : n ≤ 3) : m__law_one [.int n] = some (rowsD n oneI) := by
  refine E.runD_rt (E.ret (lc_range (by omega) rfl fun i hi => lc_range (i := 2) (h := fun j => .int (oneI i j)) (by omega) rfl fun j hj => ?_))
  refine E.map (x := .bl (decide (i = j))) (E.bin (x := .int (i : Int)) (y := .int (j : Int)) rfl rfl ?_) ?_
  · rw [gEqA_int, Bool.false_xor]
    congr 2
    by_cases q : i = j
    · rw [decide_eq_true q, decide_eq_true (by omega)]
    · rw [decide_eq_false q, decide_eq_false (by omega)]
  · show some (D.int (if decide (i = j) = true then 1 else 0)) = _
    unfold oneI
    by_cases q : i = j
    · rw [if_pos (by simpa using q), if_pos q]
    · rw [if_neg (by simpa using q), if_neg q]
/-! ### a drawn matrix -/
def rD2 (r : List Int) : D := .lst (r.map D.int)
def mxE (n : Nat) (M : Nat) (rows : List (List Int)) (x4 x5 x6 : Option (D × Fl)) : DEnv := [some (.int M, .fz), some (.int n, .fz), some (.int 3, .fz), some (.lst (rows.map rD2), .ow), x4, x5, x6]
def bMx1 : DS := (dSeq (dApp 5 (dBin (gI fun i j => i - j) (dBin (gIc (fun _ j => 0 < j) fun i j => i % j) (dMap gInt (dVar 0)) (dBin gAdd (dBin gMul (dC (.int 2)) (dVar 2)) (dC (.int 1)))) (dVar 2))) (dSet 0 (dBin (gIc CDivW fun i j => i / j) (dVar 0) (dBin gAdd (dBin gMul (dC (.int 2)) (dVar 2)) (dC (.int 1))))))
def bMx : DS := (dSeq (dSetO 5 (dLst dNil)) (dSeq (dFor (.nm 6) (dRg1 (dCons (dVar 1) dNil)) bMx1) (dFrz 5 (dApp 3 (dVar 5)))))
theorem mx_row {n M : Nat} (hn : n ≤ 3) {rows : List (List Int)} {x4 x6 : Option (D × Fl)} : ∃ (M' : Nat) (row : List Int) (y6 : Option (D × Fl)), forL (.nm 6) bMx1 (rangeD 0 (n : Int)) (mxE n M rows x4 (some (rD2 [], .ow)) x6) = some (.nx (mxE n M' rows x4 (some (rD2 row, .ow)) y6)) ∧ row.length = n ∧ ∀ z ∈ row, z.natAbs ≤ 3 := by
  have hs : smallL = 100000 := rfl
  have w : CMulW 2 3 := by decide
  obtain ⟨e, g1, g2⟩ := E.loop (tt := .nm 6) (body := bMx1) (l := rangeD 0 (n : Int)) (P := fun a e => ∃ (M' : Nat) (row : List Int) (y6 : Option (D × Fl)), e = mxE n M' rows x4 (some (rD2 row, .ow)) y6 ∧ row.length = a ∧ ∀ z ∈ row, z.natAbs ≤ 3) (fun a e d hd0 hP => by
    obtain ⟨M', row, y6, rfl, h1, h2⟩ := hP
    have ha : a < n := by
      have := (List.getElem?_eq_some_iff.mp hd0).1
      rwa [range_len] at this
    have e7 : (M' : Int) / 7 = ((M' / 7 : Nat) : Int) := by omega
    refine ⟨_, mxE n (M' / 7) rows x4 (some (rD2 (row ++ [(M' : Int) % 7 - 3]), .ow)) (some (d, .fz)), rfl, ?_, M' / 7, row ++ [(M' : Int) % 7 - 3], _, rfl, by rw [List.length_append, h1]; rfl, fun z hz => ?_⟩
    · refine E.seq (e1 := mxE n M' rows x4 (some (rD2 (row ++ [(M' : Int) % 7 - 3]), .ow)) (some (d, .fz))) (E.app (xs := row.map D.int) (fl := .ow) (d := .int ((M' : Int) % 7 - 3)) rfl (by decide) (by rw [List.length_map]; omega) (E.bin (x := .int ((M' : Int) % 7)) (y := .int 3) (E.bin (x := .int M') (y := .int 7) rfl (E.bin (x := .int 6) (y := .int 1) (E.bin (x := .int 2) (y := .int 3) rfl rfl (gMul_int w)) rfl rfl) (gMod (by decide))) rfl rfl) ?_) (E.set (d := .int ((M' / 7 : Nat) : Int)) (E.bin (x := .int M') (y := .int 7) rfl (E.bin (x := .int 6) (y := .int 1) (E.bin (x := .int 2) (y := .int 3) rfl rfl (gMul_int w)) rfl rfl) ?_) rfl)
      · unfold rD2; rw [List.map_append]; rfl
      · rw [← e7]; exact gDiv (by decide) (by decide)
    · rcases List.mem_append.mp hz with q | q
      · exact h2 z q
      · have : z = (M' : Int) % 7 - 3 := by simpa using q
        omega) (env := mxE n M rows x4 (some (rD2 [], .ow)) x6) ⟨M, [], x6, rfl, rfl, fun z hz => by cases hz⟩
  obtain ⟨M', row, y6, rfl, h1, h2⟩ := g2
  exact ⟨M', row, y6, g1, by rw [h1, range_len], h2⟩
theorem rows_fun {n : Nat} {rows : List (List Int)} (h1 : rows.length = n) (h2 : ∀ r ∈ rows, r.length = n ∧ ∀ z ∈ r, z.natAbs ≤ 3) : ∃ f : MI, D.lst (rows.map rD2) = rowsD n f ∧ ∀ i j, i < n → j < n → (f i j).natAbs ≤ 3 := by
  refine ⟨fun i j => (rows.getD i []).getD j 0, ?_, fun i j hi hj => ?_⟩
  · unfold rowsD
    congr 1
    refine List.ext_getElem? fun i => ?_
    by_cases q : i < n
    · rw [List.getElem?_map, List.getElem?_map, List.getElem?_range q, List.getElem?_eq_getElem (by omega)]
      have hm := h2 (rows[i]'(by omega)) (List.getElem_mem _)
      show some (rD2 _) = some (rowD n _)
      congr 1
      unfold rD2 rowD
      congr 1
      refine List.ext_getElem? fun j => ?_
      by_cases p : j < n
      · rw [List.getElem?_map, List.getElem?_map, List.getElem?_range p, List.getElem?_eq_getElem (by omega)]
        show some _ = some _
        simp only [List.getD_eq_getElem?_getD]
        rw [List.getElem?_eq_getElem (by omega : i < rows.length), Option.getD_some, List.getElem?_eq_getElem (by omega)]
        rfl
      · rw [List.getElem?_eq_none (by rw [List.length_map]; omega), List.getElem?_eq_none (by rw [List.length_map, List.length_range]; omega)]
    · rw [List.getElem?_eq_none (by rw [List.length_map]; omega), List.getElem?_eq_none (by rw [List.length_map, List.length_range]; omega)]
  · have hm := h2 (rows[i]'(by omega)) (List.getElem_mem _)
    simp only [List.getD_eq_getElem?_getD]
    rw [List.getElem?_eq_getElem (by omega : i < rows.length), Option.getD_some, List.getElem?_eq_getElem (by omega), Option.getD_some]
    exact hm.2 _ (List.getElem_mem _)
theorem matrix_eq {n N : Nat} (hn : n ≤ 3) : ∃ f : MI, m__law_matrix [.int N, .int n, .int 3] = some (rowsD n f) ∧ ∀ i j, i < n → j < n → (f i j).natAbs ≤ 3 := by
  have hs : smallL = 100000 := rfl
  obtain ⟨e, g1, g2⟩ := E.loop (tt := .nm 4) (body := bMx) (l := rangeD 0 (n : Int)) (P := fun a e => ∃ (M : Nat) (rows : List (List Int)) (x4 x5 x6 : Option (D × Fl)), e = mxE n M rows x4 x5 x6 ∧ rows.length = a ∧ ∀ r ∈ rows, r.length = n ∧ ∀ z ∈ r, z.natAbs ≤ 3) (fun a e d hd0 hP => by
    obtain ⟨M, rows, x4, x5, x6, rfl, h1, h2⟩ := hP
    have ha : a < n := by
      have := (List.getElem?_eq_some_iff.mp hd0).1
      rwa [range_len] at this
    obtain ⟨M', row, y6, q1, q2, q3⟩ := mx_row (n := n) (M := M) hn (rows := rows) (x4 := some (d, .fz)) (x6 := x6)
    refine ⟨_, mxE n M' (rows ++ [row]) (some (d, .fz)) (some (rD2 row, .fz)) y6, rfl, E.seq (e1 := mxE n M rows (some (d, .fz)) (some (rD2 [], .ow)) x6) (E.setO (E.lst rfl (by decide)) rfl) (E.seq (E.for_ (E.rg1 (k := (n : Int)) rfl (by omega)) q1) (E.frz_ (d := rD2 row) (fl := .ow) rfl (E.app (xs := rows.map rD2) (fl := .ow) (d := rD2 row) rfl (by decide) (by rw [List.length_map]; omega) rfl ?_))), M', rows ++ [row], _, _, _, rfl, by rw [List.length_append, h1]; rfl, fun r hr => ?_⟩
    · show List.set _ 3 _ = _
      rw [show rows.map rD2 ++ [rD2 row] = (rows ++ [row]).map rD2 by rw [List.map_append]; rfl]
      rfl
    · rcases List.mem_append.mp hr with q | q
      · exact h2 r q
      · have : r = row := by simpa using q
        rw [this]; exact ⟨q2, q3⟩) (env := mxE n N [] none none none) ⟨N, [], none, none, none, rfl, rfl, fun r hr => by cases hr⟩
  obtain ⟨M, rows, x4, x5, x6, rfl, h1, h2⟩ := g2
  rw [range_len] at h1
  obtain ⟨f, hf, hb⟩ := rows_fun h1 h2
  refine ⟨f, E.runD_rt (E.seq (e1 := mxE n N [] none none none) (E.setO (E.lst rfl (by decide)) rfl) (E.seq (E.for_ (E.rg1 (k := (n : Int)) rfl (by omega)) g1) (E.frz_ (d := rowsD n f) (fl := .ow) ?_ (E.ret rfl)))), hb⟩
  rw [← hf]
  rfl
end Pd73

/-! k73, the law's defs: own values. -/
namespace Pd73
open PySem PySem.Spec PyProof.Rows L2 Pd
local macro_rules | `(tactic| trivial) => `(tactic| first
  | assumption
  | (with_reducible apply E.var) <;> rfl
  | with_reducible exact E.next
  | (with_reducible apply E.bin) <;> trivial
  | (with_reducible apply E.map) <;> trivial
  | (with_reducible apply E.cons) <;> trivial
  | (with_reducible apply E.neg) <;> trivial
  | (with_reducible apply E.bb) <;> trivial
  | (with_reducible apply E.not) <;> trivial
  | (with_reducible apply E.tup) <;> trivial
  | (with_reducible apply E.lst) <;> trivial
  | (with_reducible apply E.call) <;> trivial
  | (with_reducible apply E.make) <;> trivial
  | (with_reducible apply E.ixO) <;> trivial
  | (with_reducible apply E.set) <;> trivial
  | (with_reducible apply E.setO) <;> trivial
  | (with_reducible apply E.ret) <;> trivial
  | (with_reducible apply E.app) <;> trivial
  | (with_reducible apply E.rg1) <;> trivial
  | (with_reducible apply E.runD_rt) <;> trivial
  | (with_reducible apply gMod) <;> trivial
  | (with_reducible apply gDiv) <;> trivial
  | (with_reducible apply gMul_int) <;> trivial
  | rfl
  | decide
  | omega)
def pI (n : Nat) (f : MI) : Nat → MI
  | 0 => oneI
  | m + 1 => mulI n (pI n f m) f
def tI (n : Nat) (f : MI) (m : Nat) : Int := sI n fun i => pI n f m i i
theorem sI_le {n b : Nat} {h : Nat → Int} (e : ∀ k, k < n → (h k).natAbs ≤ b) : (sI n h).natAbs ≤ n * b := by
  induction n with
  | zero => simp [sI]
  | succ n ih =>
    have h1 : sI (n + 1) h = sI n h + h n := by
      unfold sI
      rw [List.range_succ, List.map_append, List.sum_append_int, List.map_singleton, List.sum_singleton]
    have h2 := ih fun k hk => e k (by omega)
    have h3 := e n (by omega)
    rw [h1, Nat.succ_mul]
    omega
section
variable {n : Nat} {f : MI}
theorem pI_le (hn : n ≤ 3) (hf : ∀ i j, i < n → j < n → (f i j).natAbs ≤ 3) : ∀ (m : Nat) {i j : Nat}, i < n → j < n → (pI n f m i j).natAbs ≤ 9 ^ m
  | 0, i, j, _, _ => by
    show (if i = j then (1 : Int) else 0).natAbs ≤ 1
    split <;> decide
  | m + 1, i, j, hi, hj => by
    have h := sI_le (n := n) (b := 9 ^ m * 3) (h := fun k => pI n f m i k * f k j) fun k hk => by
      rw [Int.natAbs_mul]
      exact Nat.mul_le_mul (pI_le hn hf m hi hk) (hf k j hk hj)
    have h2 : n * (9 ^ m * 3) ≤ 3 * (9 ^ m * 3) := Nat.mul_le_mul_right _ hn
    show (sI n fun k => pI n f m i k * f k j).natAbs ≤ 9 ^ (m + 1)
    rw [Nat.pow_succ]
    omega
theorem pI_lt (hn : n ≤ 3) (hf : ∀ i j, i < n → j < n → (f i j).natAbs ≤ 3) {m : Nat} (hm : m ≤ 20) {i j : Nat} (hi : i < n) (hj : j < n) : (pI n f m i j).natAbs < 2 ^ 64 := by
  refine Nat.lt_of_le_of_lt (pI_le hn hf m hi hj) (Nat.lt_of_le_of_lt (Nat.pow_le_pow_right (by decide) hm) (by decide))
theorem tI_lt (hn : n ≤ 3) (hf : ∀ i j, i < n → j < n → (f i j).natAbs ≤ 3) {m : Nat} (hm : m ≤ 20) : (tI n f m).natAbs < 2 ^ 66 := by
  have h := sI_le (n := n) (b := 9 ^ 20) (h := fun i => pI n f m i i) fun k hk => Nat.le_trans (pI_le hn hf m hk hk) (Nat.pow_le_pow_right (by decide) hm)
  have h2 : n * 9 ^ 20 ≤ 3 * 9 ^ 20 := Nat.mul_le_mul_right _ hn
  exact Nat.lt_of_le_of_lt (Nat.le_trans h h2) (by decide)
/-! the term's number, multiplied by the traces -/
def vI (p : Nat → Int) (t : TM) : Int := t.1.foldl (fun x j => x * p j) t.2.2
/-- terms whose values are taken -/
structure Vl (t : TM) : Prop where
  j : ∀ j ∈ t.1, j ≤ 20
  l : t.1.length ≤ 20
  w : t.2.1 ≤ 20
  n : t.2.2.natAbs < 2 ^ 400000
theorem fold_lt {p : Nat → Int} (hp : ∀ j, j ≤ 20 → (p j).natAbs < 2 ^ 66) : ∀ {ns : List Nat} {x : Int} {b : Nat}, (∀ j ∈ ns, j ≤ 20) → x.natAbs < 2 ^ b → (ns.foldl (fun x j => x * p j) x).natAbs < 2 ^ (b + 66 * ns.length)
  | [], x, b, _, h => h
  | j :: ns, x, b, hj, h => by
    have h1 : (x * p j).natAbs < 2 ^ (b + 66) := by
      rw [Int.natAbs_mul, Nat.pow_add]
      exact Nat.mul_lt_mul'' h (hp j (hj j List.mem_cons_self))
    have h2 := fold_lt hp (ns := ns) (x := x * p j) (fun k hk => hj k (List.mem_cons_of_mem _ hk)) h1
    rw [List.foldl_cons, List.length_cons, show b + 66 * (ns.length + 1) = b + 66 + 66 * ns.length by omega]
    exact h2
def pwsD (n : Nat) (f : MI) (k : Nat) : List D := (List.range k).map fun m => rowsD n (pI n f m)
def trsD (n : Nat) (f : MI) : List D := (List.range 21).map fun m => .int (tI n f m)
def ioE (x5 : Option (D × Fl)) (c n : Nat) (f : MI) (k : D) (ts : List TM) (tot : Int) (rows : MI) (x9 x10 x11 x13 x14 : Option (D × Fl)) : DEnv := [some (tmL c ts, .fz), some (k, .fz), some (.int n, .fz), some (rowsD n f, .fz), some (.lst (pwsD n f 21), .fz), x5, some (.lst (trsD n f), .ow), some (.int tot, .fz), some (rowsD n rows, .fz), x9, x10, x11, none, x13, x14, none]
theorem io_pows {c : Nat} {k : D} {ts : List TM} (hn : n ≤ 3) (hf : ∀ i j, i < n → j < n → (f i j).natAbs ≤ 3) : ∃ x5, forL (.nm 5) (dApp 4 (dCall 2 m__law_times [] (dCons (dIxO 4 (dVar 5)) (dCons (dVar 3) dNil)))) (rangeD 0 (20 : Nat)) [some (tmL c ts, .fz), some (k, .fz), some (.int n, .fz), some (rowsD n f, .fz), some (.lst (pwsD n f 1), .ow), none, none, none, none, none, none, none, none, none, none, none] =
    some (.nx [some (tmL c ts, .fz), some (k, .fz), some (.int n, .fz), some (rowsD n f, .fz), some (.lst (pwsD n f 21), .ow), x5, none, none, none, none, none, none, none, none, none, none]) := by
  have hs : smallL = 100000 := rfl
  obtain ⟨e, g1, g2⟩ := E.loop (tt := .nm 5) (body := dApp 4 (dCall 2 m__law_times [] (dCons (dIxO 4 (dVar 5)) (dCons (dVar 3) dNil)))) (l := rangeD 0 (20 : Nat)) (P := fun a e => ∃ x5, e = [some (tmL c ts, .fz), some (k, .fz), some (.int n, .fz), some (rowsD n f, .fz), some (.lst (pwsD n f (a + 1)), .ow), x5, none, none, none, none, none, none, none, none, none, none]) (fun a e d hd0 hP => by
    obtain ⟨x5, rfl⟩ := hP
    rw [rangeD0'] at hd0
    obtain ⟨ha, rfl⟩ := range_at hd0
    refine ⟨_, [some (tmL c ts, .fz), some (k, .fz), some (.int n, .fz), some (rowsD n f, .fz), some (.lst (pwsD n f (a + 1 + 1)), .ow), some (.int (a : Int), .fz), none, none, none, none, none, none, none, none, none, none], rfl, ?_, _, rfl⟩
    have ht := times_eq (n := n) hn (f := pI n f a) (g := f) fun i j k hi hj hk => mulW (a := 64) (b := 64) (pI_lt hn hf (by omega) hi hk) (Nat.lt_of_le_of_lt (hf k j hk hj) (by decide)) (by decide) (by decide) (by decide)
    have hx : atI (pwsD n f (a + 1)) (a : Int) = some (rowsD n (pI n f a)) := atI_nat (by unfold pwsD; rw [List.getElem?_map, List.getElem?_range (by omega)]; rfl)
    refine E.app (xs := pwsD n f (a + 1)) (fl := .ow) (d := rowsD n (pI n f (a + 1))) rfl (by decide) (by unfold pwsD; rw [List.length_map, List.length_range]; omega) (E.call (xs := [rowsD n (pI n f a), rowsD n f]) (E.cons (E.ixO (xs := pwsD n f (a + 1)) (fl := .ow) (k := (a : Int)) rfl rfl hx) rfl) rfl ht) ?_
    have e2 : pwsD n f (a + 1) ++ [rowsD n (pI n f (a + 1))] = pwsD n f (a + 1 + 1) := by
      unfold pwsD
      rw [List.range_succ (n := a + 1), List.map_append]
      rfl
    rw [e2]
    rfl) (env := [some (tmL c ts, .fz), some (k, .fz), some (.int n, .fz), some (rowsD n f, .fz), some (.lst (pwsD n f 1), .ow), none, none, none, none, none, none, none, none, none, none, none]) ⟨none, rfl⟩
  obtain ⟨x5, rfl⟩ := g2
  rw [range_len] at g1
  exact ⟨x5, g1⟩
def bIo : DS := (dSeq (dFor (.nm 13) (dIt (dVar 9)) (dSet 11 (dBin gMul (dVar 11) (dIxO 6 (dMap gLen (dVar 13)))))) (dSeq (dSet 7 (dBin gAdd (dVar 7) (dVar 11))) (dSeq (dSet 14 (dIxO 4 (dMap gLen (dVar 10)))) (dSet 8 (dLc [5] (.nm 5) (dRg1 (dCons (dVar 2) dNil)) dYes (dLc [15] (.nm 15) (dRg1 (dCons (dVar 2) dNil)) dYes (dBin gAdd (dBin gIx (dBin gIx (dVar 8) (dVar 5)) (dVar 15)) (dBin gMul (dVar 11) (dBin gIx (dBin gIx (dVar 14) (dVar 5)) (dVar 15))))))))))
theorem tr_ix {j : Nat} (hj : j ≤ 20) : atI (trsD n f) (j : Int) = some (.int (tI n f j)) := atI_nat (by unfold trsD; rw [List.getElem?_map, List.getElem?_range (by omega)]; rfl)
theorem io_step {x5 : Option (D × Fl)} {c : Nat} {k : D} {ts : List TM} {tot : Int} {rows : MI} {x9 x10 x11 x13 x14 : Option (D × Fl)} (hn : n ≤ 3) (hf : ∀ i j, i < n → j < n → (f i j).natAbs ≤ 3) {t : TM} (ht : Vl t) :
    ∃ y13 y14, bIo (ioE x5 c n f k ts tot rows (some (.lst (cyL c t.1), .fz)) (some (.str (xs c t.2.1), .fz)) (some (.int t.2.2, .fz)) x13 x14) = some (.nx (ioE x5 c n f k ts (tot + vI (tI n f) t) (fun i j => rows i j + vI (tI n f) t * pI n f t.2.1 i j) (some (.lst (cyL c t.1), .fz)) (some (.str (xs c t.2.1), .fz)) (some (.int (vI (tI n f) t), .fz)) y13 y14)) := by
  have hp : ∀ j, j ≤ 20 → (tI n f j).natAbs < 2 ^ 66 := fun j hj => tI_lt hn hf hj
  obtain ⟨y13, g1, _⟩ := E.fold (enc := fun j => D.str (xs c j)) (tt := .nm 13) (body := dSet 11 (dBin gMul (dVar 11) (dIxO 6 (dMap gLen (dVar 13))))) (mk := fun (x : Int) (y : Option (D × Fl)) => ioE x5 c n f k ts tot rows (some (.lst (cyL c t.1), .fz)) (some (.str (xs c t.2.1), .fz)) (some (.int x, .fz)) y x14) (f := fun x j => x * tI n f j) (I := fun r x => r ≤ 20 ∧ x.natAbs < 2 ^ (400000 + 66 * (20 - r))) (A := t.1) (s := t.2.2) (x := x13) (fun r x y j hj hI => by
    have hj20 := ht.j j hj
    refine ⟨_, some (.str (xs c j), .fz), rfl, E.set (E.bin (x := .int x) (y := .int (tI n f j)) rfl (E.ixO (xs := trsD n f) (fl := .ow) (k := (j : Int)) rfl (E.map (x := .str (xs c j)) rfl (gLen_xs c (by omega))) (tr_ix hj20)) (gMul_int (mulW (a := 400000 + 66 * 20) (b := 66) (Nat.lt_of_lt_of_le hI.2 (Nat.pow_le_pow_right (by decide) (by omega))) (hp j hj20) (by decide) (by decide) (by decide)))) rfl, by omega, ?_⟩
    rw [Int.natAbs_mul, show 400000 + 66 * (20 - r) = 400000 + 66 * (20 - (r + 1)) + 66 by omega, Nat.pow_add]
    exact Nat.mul_lt_mul'' hI.2 (hp j hj20)) ⟨ht.l, Nat.lt_of_lt_of_le ht.n (Nat.pow_le_pow_right (by decide) (by omega))⟩
  have hv : (vI (tI n f) t).natAbs < 2 ^ (400000 + 66 * 20) := by
    have := fold_lt hp (x := t.2.2) ht.j ht.n
    exact Nat.lt_of_lt_of_le this (Nat.pow_le_pow_right (by decide) (by have := ht.l; omega))
  have hpw : atI (pwsD n f 21) (t.2.1 : Int) = some (rowsD n (pI n f t.2.1)) := atI_nat (by unfold pwsD; rw [List.getElem?_map, List.getElem?_range (by have := ht.w; omega)]; rfl)
  refine ⟨y13, some (rowsD n (pI n f t.2.1), .fz), ?_⟩
  unfold bIo
  refine E.seq (E.for_ (l := t.1.map fun j => D.str (xs c j)) (E.it_l rfl) g1) (E.seq (e1 := ioE x5 c n f k ts (tot + vI (tI n f) t) rows (some (.lst (cyL c t.1), .fz)) (some (.str (xs c t.2.1), .fz)) (some (.int (vI (tI n f) t), .fz)) y13 x14) (E.set rfl rfl) (E.seq (e1 := ioE x5 c n f k ts (tot + vI (tI n f) t) rows (some (.lst (cyL c t.1), .fz)) (some (.str (xs c t.2.1), .fz)) (some (.int (vI (tI n f) t), .fz)) y13 (some (rowsD n (pI n f t.2.1), .fz))) (E.set (E.ixO (xs := pwsD n f 21) (fl := .fz) (k := (t.2.1 : Int)) rfl (E.map (x := .str (xs c t.2.1)) rfl (gLen_xs c (by have := ht.w; omega))) hpw) rfl) (E.set (d := rowsD n fun i j => rows i j + vI (tI n f) t * pI n f t.2.1 i j) ?_ rfl)))
  refine lc_range (by omega) rfl fun i hi => lc_range (i := 15) (h := fun j => .int (rows i j + vI (tI n f) t * pI n f t.2.1 i j)) (by omega) rfl fun j hj => ?_
  exact E.bin (x := .int (rows i j)) (y := .int (vI (tI n f) t * pI n f t.2.1 i j)) (E.bin (x := rowD n (rows i)) (y := .int (j : Int)) (E.bin (x := rowsD n rows) (y := .int (i : Int)) rfl rfl (rowsD_ix rows hi)) rfl (rowD_ix _ hj)) (E.bin (x := .int (vI (tI n f) t)) (y := .int (pI n f t.2.1 i j)) rfl (E.bin (x := rowD n (pI n f t.2.1 i)) (y := .int (j : Int)) (E.bin (x := rowsD n (pI n f t.2.1)) (y := .int (i : Int)) rfl rfl (rowsD_ix _ hi)) rfl (rowD_ix _ hj)) (gMul_int (mulW (a := 400000 + 66 * 20) (b := 64) hv (pI_lt hn hf ht.w hi hj) (by decide) (by decide) (by decide)))) rfl
/-- the sums of the values -/
def totI (n : Nat) (f : MI) (ts : List TM) : Int := ts.foldl (fun s t => s + vI (tI n f) t) 0
def rowI (n : Nat) (f : MI) (ts : List TM) : MI := fun i j => ts.foldl (fun s t => s + vI (tI n f) t * pI n f t.2.1 i j) 0
theorem fold_pair (n : Nat) (f : MI) : ∀ (ts : List TM) (s : Int × MI), ts.foldl (fun (s : Int × MI) t => (s.1 + vI (tI n f) t, fun i j => s.2 i j + vI (tI n f) t * pI n f t.2.1 i j)) s = (ts.foldl (fun s t => s + vI (tI n f) t) s.1, fun i j => ts.foldl (fun s t => s + vI (tI n f) t * pI n f t.2.1 i j) (s.2 i j))
  | [], s => rfl
  | t :: ts, s => by rw [List.foldl_cons, fold_pair n f ts]; rfl
theorem in_one_eq {c : Nat} {mk : Bool} {ts : List TM} (hn : n ≤ 3) (hf : ∀ i j, i < n → j < n → (f i j).natAbs ≤ 3) (ht : ∀ t ∈ ts, Vl t) : m__law_in_one [tmL c ts, .str (kindOf mk), .int n, rowsD n f] = some (if mk then rowsD n (rowI n f ts) else .int (totI n f ts)) := by
  have hs : smallL = 100000 := rfl
  obtain ⟨x5, g1⟩ := io_pows (c := c) (k := .str (kindOf mk)) (ts := ts) hn hf
  let E1 : DEnv := [some (tmL c ts, .fz), some (.str (kindOf mk), .fz), some (.int n, .fz), some (rowsD n f, .fz), some (.lst (pwsD n f 21), .fz), x5, none, none, none, none, none, none, none, none, none, none]
  have hsum : dLc [12] (.nm 12) (dIt (dVar 4)) dYes (dMap gSum (dLc [5] (.nm 5) (dRg1 (dCons (dVar 2) dNil)) dYes (dBin gIx (dBin gIx (dVar 12) (dVar 5)) (dVar 5)))) E1 = some (.lst (trsD n f)) := by
    refine E.lc (l := pwsD n f 21) (E.it_l rfl) (by unfold pwsD; rw [List.length_map, List.length_range]; omega) (E.comp (by simp [pwsD, trsD]) fun m x y hx hy => ?_)
    unfold pwsD at hx
    unfold trsD at hy
    rw [List.getElem?_map] at hx hy
    obtain ⟨a, h1, rfl⟩ := Option.map_eq_some_iff.mp hx
    rw [h1] at hy
    cases hy
    refine ⟨_, rfl, rfl, E.map (lc_range (i := 5) (h := fun i => .int (pI n f a i i)) (by omega) rfl fun i hi => ?_) (gSum_ints n _)⟩
    exact E.bin (x := rowD n (pI n f a i)) (y := .int (i : Int)) (E.bin (x := rowsD n (pI n f a)) (y := .int (i : Int)) rfl rfl (rowsD_ix _ hi)) rfl (rowD_ix _ hi)
  have hz : dLc [5] (.nm 5) (dRg1 (dCons (dVar 2) dNil)) dYes (dLc [15] (.nm 15) (dRg1 (dCons (dVar 2) dNil)) dYes (dC (.int 0))) [some (tmL c ts, .fz), some (.str (kindOf mk), .fz), some (.int n, .fz), some (rowsD n f, .fz), some (.lst (pwsD n f 21), .fz), x5, some (.lst (trsD n f), .ow), some (.int 0, .fz), none, none, none, none, none, none, none, none] = some (rowsD n fun _ _ => 0) :=
    lc_range (by omega) rfl fun i hi => lc_range (i := 15) (h := fun j => .int 0) (by omega) rfl fun j hj => rfl
  obtain ⟨y, g2, _⟩ := E.fold (enc := tmD c) (tt := .tp [9, 10, 11]) (body := bIo) (mk := fun (s : Int × MI) (x : Option (D × Fl) × Option (D × Fl) × Option (D × Fl) × Option (D × Fl) × Option (D × Fl)) => ioE x5 c n f (.str (kindOf mk)) ts s.1 s.2 x.1 x.2.1 x.2.2.1 x.2.2.2.1 x.2.2.2.2) (f := fun (s : Int × MI) t => (s.1 + vI (tI n f) t, fun i j => s.2 i j + vI (tI n f) t * pI n f t.2.1 i j)) (I := fun _ _ => True) (A := ts) (s := (0, fun _ _ => 0)) (x := (none, none, none, none, none)) (fun r s x t hm _ => by
    obtain ⟨y13, y14, h⟩ := io_step (x5 := x5) (c := c) (k := .str (kindOf mk)) (ts := ts) (tot := s.1) (rows := s.2) (x9 := x.1) (x10 := x.2.1) (x11 := x.2.2.1) (x13 := x.2.2.2.1) (x14 := x.2.2.2.2) hn hf (ht t hm)
    exact ⟨_, (some (.lst (cyL c t.1), .fz), some (.str (xs c t.2.1), .fz), some (.int (vI (tI n f) t), .fz), y13, y14), rfl, h, trivial⟩) trivial
  rw [fold_pair] at g2
  refine E.runD_rt (E.seq (e1 := [some (tmL c ts, .fz), some (.str (kindOf mk), .fz), some (.int n, .fz), some (rowsD n f, .fz), some (.lst (pwsD n f 1), .ow), none, none, none, none, none, none, none, none, none, none, none]) (E.setO (E.lst (xs := pwsD n f 1) (E.cons (E.call (xs := [.int n]) rfl rfl (one_eq hn)) rfl) (by show (1 : Nat) ≤ 100000; decide)) rfl) (E.seq (E.for_ (l := rangeD 0 (20 : Nat)) (E.rg1 (k := (20 : Nat)) rfl (by decide)) g1) (E.seq (e1 := [some (tmL c ts, .fz), some (.str (kindOf mk), .fz), some (.int n, .fz), some (rowsD n f, .fz), some (.lst (pwsD n f 21), .fz), x5, some (.lst (trsD n f), .ow), none, none, none, none, none, none, none, none, none]) (E.frz_ (d := .lst (pwsD n f 21)) (fl := .ow) rfl (E.setO hsum rfl)) (E.seq (e1 := [some (tmL c ts, .fz), some (.str (kindOf mk), .fz), some (.int n, .fz), some (rowsD n f, .fz), some (.lst (pwsD n f 21), .fz), x5, some (.lst (trsD n f), .ow), some (.int 0, .fz), none, none, none, none, none, none, none, none]) (E.set rfl rfl) (E.seq (e1 := ioE x5 c n f (.str (kindOf mk)) ts 0 (fun _ _ => 0) none none none none none) (E.set hz rfl) (E.seq (E.for_ (l := ts.map (tmD c)) (E.it_l rfl) g2) ?_))))))
  cases mk with
  | false => exact E.seq (E.if_f (E.bb (E.bin (x := .str (kindOf false)) (y := .str "matrix") rfl rfl (gEq_str_f (by decide +kernel)))) E.next) (E.ret rfl)
  | true => exact E.seq_rt (E.if_t (E.bb (E.bin (x := .str (kindOf true)) (y := .str "matrix") rfl rfl (gEq_str_t (by decide +kernel)))) (E.ret rfl))
end
end Pd73

/-! k73: whole values and functionals. -/
namespace Pd73
open PySem PySem.Spec PyProof.Rows L2 Pd
def fR (f : MI) : Mx := fun i j => (f i j : Rat)
theorem sI_cast (h : Nat → Int) : ∀ n : Nat, ((sI n h : Int) : Rat) = sR n fun k => (h k : Rat)
  | 0 => rfl
  | n + 1 => by
    have h1 : sI (n + 1) h = sI n h + h n := by
      unfold sI
      rw [List.range_succ, List.map_append, List.sum_append_int, List.map_singleton, List.sum_singleton]
    rw [h1, Rat.intCast_add, sI_cast h n]
    rfl
theorem pI_cast (n : Nat) (f : MI) : ∀ (m i j : Nat), ((pI n f m i j : Int) : Rat) = pw n (fR f) m i j
  | 0, i, j => by
    show ((if i = j then (1 : Int) else 0 : Int) : Rat) = if i = j then 1 else 0
    split <;> rfl
  | m + 1, i, j => by
    show ((sI n fun k => pI n f m i k * f k j : Int) : Rat) = sR n fun k => pw n (fR f) m i k * fR f k j
    rw [sI_cast]
    congr 1
    funext k
    rw [Rat.intCast_mul, pI_cast n f m]
    rfl
theorem tI_cast (n : Nat) (f : MI) (m : Nat) : ((tI n f m : Int) : Rat) = trp' n (fR f) m := by
  unfold tI
  rw [sI_cast]
  show _ = sR n fun i => pw n (fR f) m i i
  congr 1
  funext k
  exact pI_cast n f m k k
theorem fold_cast (p : Nat → Int) (q : Nat → Rat) (h : ∀ j, (p j : Rat) = q j) : ∀ (ns : List Nat) (x : Int), ((ns.foldl (fun x j => x * p j) x : Int) : Rat) = (x : Rat) * prR q ns
  | [], x => by show (x : Rat) = x * 1; grind
  | j :: ns, x => by
    rw [List.foldl_cons, fold_cast p q h ns, Rat.intCast_mul, h]
    show _ = (x : Rat) * (q j * prR q ns)
    grind
theorem vI_cast (n : Nat) (f : MI) (t : TM) : ((vI (tI n f) t : Int) : Rat) = (t.2.2 : Rat) * prR (trp' n (fR f)) t.1 := fold_cast _ _ (fun j => tI_cast n f j) _ _
theorem totI_cast (n : Nat) (f : MI) (ts : List TM) : ((totI n f ts : Int) : Rat) = sumT (fun ns _ => prR (trp' n (fR f)) ns * 1) ts := by
  have gen : ∀ (ts : List TM) (s : Int), ((ts.foldl (fun s t => s + vI (tI n f) t) s : Int) : Rat) = (s : Rat) + sumT (fun ns _ => prR (trp' n (fR f)) ns * 1) ts := by
    intro ts
    induction ts with
    | nil => intro s; show (s : Rat) = s + 0; grind
    | cons t ts ih =>
      intro s
      rw [List.foldl_cons, ih, Rat.intCast_add, vI_cast]
      simp only [sumT]
      grind
  unfold totI
  rw [gen]
  show (0 : Rat) + _ = _
  grind
theorem rowI_cast (n : Nat) (f : MI) (ts : List TM) (i j : Nat) : ((rowI n f ts i j : Int) : Rat) = sumT (fun ns w => prR (trp' n (fR f)) ns * pw n (fR f) w i j) ts := by
  have gen : ∀ (ts : List TM) (s : Int), ((ts.foldl (fun s t => s + vI (tI n f) t * pI n f t.2.1 i j) s : Int) : Rat) = (s : Rat) + sumT (fun ns w => prR (trp' n (fR f)) ns * pw n (fR f) w i j) ts := by
    intro ts
    induction ts with
    | nil => intro s; show (s : Rat) = s + 0; grind
    | cons t ts ih =>
      intro s
      rw [List.foldl_cons, ih, Rat.intCast_add, Rat.intCast_mul, vI_cast, pI_cast]
      simp only [sumT]
      grind
  unfold rowI
  rw [gen]
  show (0 : Rat) + _ = _
  grind
/-! ### own terms of a polynomial -/
def dstep (d : Nat) (e : KY × Rat) : Nat := if d % e.2.den ≠ 0 then d * e.2.den else d
def denL (l : PL) : Nat := l.foldl dstep 1
def ownT (d : Nat) (l : PL) : List TM := l.map fun e => (cyc e.1, wrd e.1, e.2.num * ((d : Int) / (e.2.den : Int)))
theorem dstep_dvd (d : Nat) (e : KY × Rat) : d ∣ dstep d e ∧ e.2.den ∣ dstep d e := by
  unfold dstep
  split
  · exact ⟨Nat.dvd_mul_right _ _, Nat.dvd_mul_left _ _⟩
  · rename_i h
    exact ⟨Nat.dvd_refl _, Nat.dvd_of_mod_eq_zero (by omega)⟩
theorem fold_dvd : ∀ (l : PL) (d : Nat), d ∣ l.foldl dstep d ∧ ∀ e ∈ l, e.2.den ∣ l.foldl dstep d
  | [], d => ⟨Nat.dvd_refl _, fun e h => by cases h⟩
  | x :: l, d => by
    obtain ⟨h1, h2⟩ := fold_dvd l (dstep d x)
    obtain ⟨g1, g2⟩ := dstep_dvd d x
    refine ⟨Nat.dvd_trans g1 h1, fun e he => ?_⟩
    rcases List.mem_cons.mp he with z | z
    · rw [z]; exact Nat.dvd_trans g2 h1
    · exact h2 e z
theorem dstep_pos {d : Nat} (h : 0 < d) (e : KY × Rat) : 0 < dstep d e := by
  unfold dstep
  split
  · exact Nat.mul_pos h e.2.den_pos
  · exact h
theorem dstep_lt {d b : Nat} (h : d < 2 ^ b) {e : KY × Rat} (he : e.2.den < 2 ^ 70) : dstep d e < 2 ^ (b + 70) := by
  unfold dstep
  split
  · rw [Nat.pow_add]; exact Nat.mul_lt_mul'' h he
  · exact Nat.lt_of_lt_of_le h (Nat.pow_le_pow_right (by decide) (by omega))
theorem fold_pos : ∀ (l : PL) {d : Nat}, 0 < d → 0 < l.foldl dstep d
  | [], _, h => h
  | x :: l, d, h => fold_pos l (dstep_pos h x)
theorem fold_lt2 : ∀ (l : PL) {d b : Nat}, d < 2 ^ b → (∀ e ∈ l, e.2.den < 2 ^ 70) → l.foldl dstep d < 2 ^ (b + 70 * l.length)
  | [], _, _, h, _ => h
  | x :: l, d, b, h, he => by
    have := fold_lt2 l (dstep_lt h (he x List.mem_cons_self)) fun e hm => he e (List.mem_cons_of_mem _ hm)
    rw [List.foldl_cons, List.length_cons, show b + 70 * (l.length + 1) = b + 70 + 70 * l.length by omega]
    exact this
theorem in_den {m : Nat} {q : Rat} (hm : 0 < m) (h : In m q) : q.den ≤ m := by
  have e := h.eq
  have hz : (m : Rat) ≠ 0 := by
    intro z
    have : m = 0 := by exact_mod_cast z
    omega
  have e2 : q = mkRat (zz m q) m := by
    rw [Rat.mkRat_eq_div, ← e]
    grind
  generalize zz m q = z at e2
  have n2 := Rat.den_mkRat z m
  rw [if_neg (by omega)] at n2
  rw [e2, n2]
  exact Nat.div_le_self _ _
theorem num_eq (q : Rat) : (q.num : Rat) = q * (q.den : Rat) := by
  have h : q = mkRat q.num q.den := (Rat.mkRat_self q).symm
  have hz : (q.den : Rat) ≠ 0 := by
    intro z
    have : q.den = 0 := by exact_mod_cast z
    have := q.den_pos
    omega
  rw [Rat.mkRat_eq_div] at h
  generalize (q.num : Rat) = a at h
  generalize (q.den : Rat) = b at h hz
  rw [h]
  exact (Rat.div_mul_cancel hz).symm
/-- the value of the own terms -/
theorem sumT_own (f : List Nat → Nat → Rat) (g : KY → Rat) (d : Nat) : ∀ l : PL, (∀ e ∈ l, e.2.den ∣ d) → (∀ e ∈ l, g e.1 = f (cyc e.1) (wrd e.1)) → sumT f (ownT d l) = (d : Rat) * S g l
  | [], _, _ => by show (0 : Rat) = (d : Rat) * 0; grind
  | e :: l, h, hg => by
    show ((e.2.num * ((d : Int) / (e.2.den : Int)) : Int) : Rat) * f (cyc e.1) (wrd e.1) + sumT f (ownT d l) = (d : Rat) * (e.2 * g e.1 + S g l)
    rw [sumT_own f g d l (fun x hx => h x (List.mem_cons_of_mem _ hx)) fun x hx => hg x (List.mem_cons_of_mem _ hx), hg e List.mem_cons_self]
    obtain ⟨k, hk⟩ := h e List.mem_cons_self
    have hp := e.2.den_pos
    have e1 : (d : Int) / (e.2.den : Int) = (k : Int) := by
      rw [hk, Int.natCast_mul]
      exact Int.mul_ediv_cancel_left _ (by omega)
    have e2 : (e.2.num : Rat) = e.2 * (e.2.den : Rat) := num_eq e.2
    have e3 : (d : Rat) = (e.2.den : Rat) * (k : Rat) := by rw [hk, Rat.natCast_mul]
    have e4 : (((k : Nat) : Int) : Rat) = (k : Rat) := rfl
    rw [e1, Rat.intCast_mul, e2, e3, e4]
    grind
end Pd73

/-! k73, the law's defs: own terms of a polynomial, short polynomials. -/
namespace Pd73
open PySem PySem.Spec PyProof.Rows L2 Pd
local macro_rules | `(tactic| trivial) => `(tactic| first
  | assumption
  | (with_reducible apply E.var) <;> rfl
  | with_reducible exact E.next
  | (with_reducible apply E.bin) <;> trivial
  | (with_reducible apply E.map) <;> trivial
  | (with_reducible apply E.cons) <;> trivial
  | (with_reducible apply E.neg) <;> trivial
  | (with_reducible apply E.bb) <;> trivial
  | (with_reducible apply E.not) <;> trivial
  | (with_reducible apply E.tup) <;> trivial
  | (with_reducible apply E.lst) <;> trivial
  | (with_reducible apply E.call) <;> trivial
  | (with_reducible apply E.make) <;> trivial
  | (with_reducible apply E.ixO) <;> trivial
  | (with_reducible apply E.set) <;> trivial
  | (with_reducible apply E.setO) <;> trivial
  | (with_reducible apply E.ret) <;> trivial
  | (with_reducible apply E.app) <;> trivial
  | (with_reducible apply E.rg1) <;> trivial
  | (with_reducible apply E.runD_rt) <;> trivial
  | (with_reducible apply gMod) <;> trivial
  | (with_reducible apply gDiv) <;> trivial
  | (with_reducible apply gMul_int) <;> trivial
  | rfl
  | decide
  | omega)
theorem gDivL {i j : Int} (h : 0 < j) (h2 : j.natAbs < 2 ^ 8000) : (gIc CDivW fun i j => i / j) (.int i) (.int j) = some (.int (i / j)) := by
  have h3 : CDivW i j := by
    unfold CDivW
    have := log_lt (k := 8000) (by decide) h2
    omega
  simp only [gIc, h3, if_true]
theorem gLt_t {i j : Int} (h : i < j) : gLt (.int i) (.int j) = some (.bl true) := by unfold gLt; dsimp only; rw [decide_eq_true h]
theorem gLt_f {i j : Int} (h : ¬ i < j) : gLt (.int i) (.int j) = some (.bl false) := by unfold gLt; dsimp only; rw [decide_eq_false h]
theorem f_num {f : DP} {env : DEnv} {q : Rat} (h : f env = some (rD q)) : dFld 0 "num" f env = some (.int q.num) := E.fld h (lk_num _ _)
theorem f_den {f : DP} {env : DEnv} {q : Rat} (h : f env = some (rD q)) : dFld 0 "den" f env = some (.int q.den) := E.fld h (lk_den _ _)
theorem f_isR {f : DP} {env : DEnv} {q : Rat} (h : f env = some (rD q)) : dIsO 0 f env = some (.bl true) := E.isO h
theorem f_get {f g : DP} {env : DEnv} {kind : Str} {l : PL} {k : KY} {q : Rat} (h : f env = some (pD kind l)) (hg : g env = some (kD k)) (hq : look k l = some q) : dSubO 1 m_Poly___getitem__ f g env = some (rD q) := by
  have := Poly_get kind l k
  rw [hq] at this
  exact E.subO h hg this
def owE (kind : Str) (l : PL) (d : Nat) (x2 x3 : Option (D × Fl)) : DEnv := [some (pD kind l, .fz), some (.int d, .fz), x2, x3]
def bOw : DS := (dSeq (dSet 3 (dSubO 1 m_Poly___getitem__ (dVar 0) (dVar 2))) (dSeq (dIf (dOr (dNot (dB (dIsO 0 (dVar 3)))) (dOr (dB (dBin (gLt) (dFld 0 "den" (dVar 3)) (dC (.int 1)))) (dB (dBin (gEqA false) (dFld 0 "num" (dVar 3)) (dC (.int 0)))))) (dRet (dC .non)) dNext) (dIf (dB (dBin (gEqA true) (dBin (gIc (fun _ j => 0 < j) fun i j => i % j) (dMap gInt (dVar 1)) (dFld 0 "den" (dVar 3))) (dC (.int 0)))) (dSet 1 (dBin gMul (dVar 1) (dFld 0 "den" (dVar 3)))) dNext)))
theorem ow_step {kind : Str} {l : PL} {d b : Nat} {x3 : Option (D × Fl)} {e : KY × Rat} (hc : Can l) (he : e ∈ l) (hd : e.2.den < 2 ^ 70) (hb : d < 2 ^ b) (hb2 : b ≤ 400000) :
    bOw (owE kind l d (some (kD e.1, .fz)) x3) = some (.nx (owE kind l (dstep d e) (some (kD e.1, .fz)) (some (rD e.2, .fz)))) := by
  have hn0 : e.2.num ≠ 0 := fun z => hc.nz e he (Rat.num_eq_zero.mp z)
  have hp := e.2.den_pos
  have hm : (d : Int) % (e.2.den : Int) = ((d % e.2.den : Nat) : Int) := (Int.natCast_emod d e.2.den).symm
  have w : CMulW (d : Int) (e.2.den : Int) := by
    by_cases z : b = 0
    · subst z
      exact wN (a := d) (b := e.2.den) (x := 1) (y := 70) (Nat.lt_of_lt_of_le hb (by decide)) hd
    · exact wN (a := d) (b := e.2.den) (x := b) (y := 70) hb hd (by omega) (by decide) (by omega)
  have v3 : ∀ env : DEnv, env[3]? = some (some (rD e.2, Fl.fz)) → dVar 3 env = some (rD e.2) := fun env h => E.var h
  unfold bOw
  refine E.seq (e1 := owE kind l d (some (kD e.1, .fz)) (some (rD e.2, .fz))) (E.set (f_get rfl rfl (mem_look hc.nd he)) rfl) (E.seq (E.if_f (E.or_f (E.not (b := true) (E.bb (f_isR (v3 _ rfl)))) (E.or_f (E.bb (E.bin (f_den (v3 _ rfl)) rfl (gLt_f (by omega)))) (E.bb (E.bin (f_num (v3 _ rfl)) rfl (gEq_int_f hn0))))) E.next) ?_)
  by_cases q : d % e.2.den = 0
  · have ed : dstep d e = d := by unfold dstep; rw [if_neg (by simpa using q)]
    rw [ed]
    exact E.if_f (E.bb (E.bin (x := .int ((d : Int) % (e.2.den : Int))) (E.bin (x := .int d) rfl (f_den (v3 _ rfl)) (gMod (by omega))) rfl (gEq_int_t (by omega)))) E.next
  · have ed : dstep d e = d * e.2.den := by unfold dstep; rw [if_pos q]
    rw [ed]
    refine E.if_t (E.bb (E.bin (x := .int ((d : Int) % (e.2.den : Int))) (E.bin (x := .int d) rfl (f_den (v3 _ rfl)) (gMod (by omega))) rfl (gEq_int_f (by omega)))) (E.set (d := .int ((d * e.2.den : Nat) : Int)) (E.bin (x := .int d) rfl (f_den (v3 _ rfl)) ?_) rfl)
    rw [Int.natCast_mul]
    exact gMul_int w
theorem uk_key {c : Nat} {k : KY} (h : ∃ ns w, k = uk c ns w) : k = uk c (cyc k) (wrd k) := by
  obtain ⟨ns, w, rfl⟩ := h
  rw [cyc_uk, wrd_uk]
theorem kD_ku (c : Nat) (ns : List Nat) (w : Nat) : kD (uk c ns w) = .tup [.tup (cyL c ns), .str (xs c w)] := by
  unfold kD uk cyL
  rw [List.map_map]
  rfl
theorem own_eq {c : Nat} {kind : Str} {l : PL} (hc : Can l) (hk : ∀ e ∈ l, ∃ ns w, e.1 = uk c ns w) (hl : l.length ≤ 4900) (hd : ∀ e ∈ l, e.2.den < 2 ^ 70) (hn : ∀ e ∈ l, e.2.num.natAbs < 2 ^ 4000) :
    m__law_own [pD kind l] = some (.lst [tmL c (ownT (denL l) l), .int (denL l : Nat)]) := by
  have hs : smallL = 100000 := rfl
  obtain ⟨⟨x2, x3⟩, g1, _⟩ := E.fold (enc := fun e : KY × Rat => kD e.1) (tt := .nm 2) (body := bOw) (mk := fun d (x : Option (D × Fl) × Option (D × Fl)) => owE kind l d x.1 x.2) (f := dstep) (I := fun r d => r ≤ 4900 ∧ d < 2 ^ (1 + 70 * (4900 - r))) (A := l) (s := 1) (x := (none, none)) (fun r d x e he hI => by
    refine ⟨_, (some (kD e.1, .fz), some (rD e.2, .fz)), rfl, ow_step hc he (hd e he) hI.2 (by omega), by omega, ?_⟩
    have := dstep_lt hI.2 (hd e he)
    rw [show 1 + 70 * (4900 - r) = 1 + 70 * (4900 - (r + 1)) + 70 by omega]
    exact this) ⟨hl, Nat.lt_of_lt_of_le (by decide : 1 < 2 ^ 1) (Nat.pow_le_pow_right (by decide) (by omega))⟩
  have hdv := (fold_dvd l 1).2
  have hD : denL l < 2 ^ 400000 := Nat.lt_of_lt_of_le (fold_lt2 l (b := 1) (by decide) hd) (Nat.pow_le_pow_right (by decide) (by omega))
  have hcomp : dLc [2] (.nm 2) (dIt (dFld 1 "terms" (dVar 0))) dYes (dTup (dCons (dMap gList (dBin gIx (dVar 2) (dC (.int 0)))) (dCons (dBin gIx (dVar 2) (dC (.int 1))) (dCons (dBin gMul (dFld 0 "num" (dSubO 1 m_Poly___getitem__ (dVar 0) (dVar 2))) (dBin (gIc CDivW fun i j => i / j) (dVar 1) (dFld 0 "den" (dSubO 1 m_Poly___getitem__ (dVar 0) (dVar 2))))) dNil)))) (owE kind l (denL l) x2 x3) = some (tmL c (ownT (denL l) l)) := by
    refine E.lc (l := dks l) (E.it_t (f_terms rfl)) (by rw [dks_length]; omega) (E.comp (by simp [dks, ownT]) fun a x y hx hy => ?_)
    obtain ⟨e, h1, rfl⟩ := map_at hx
    unfold ownT at hy
    rw [List.map_map, List.getElem?_map, h1] at hy
    cases hy
    have he : e ∈ l := List.mem_of_getElem? h1
    have hke := uk_key (hk e he)
    obtain ⟨E1, hE⟩ : ∃ E1, E1 = owE kind l (denL l) (some (kD e.1, .fz)) x3 := ⟨_, rfl⟩
    have hg : dSubO 1 m_Poly___getitem__ (dVar 0) (dVar 2) E1 = some (rD e.2) := f_get (kind := kind) (l := l) (k := e.1) (by rw [hE]; rfl) (by rw [hE]; rfl) (mem_look hc.nd he)
    have v1 : dVar 1 E1 = some (.int (denL l : Nat)) := by rw [hE]; rfl
    have v2 : dVar 2 E1 = some (.tup [.tup (cyL c (cyc e.1)), .str (xs c (wrd e.1))]) := by
      rw [← kD_ku, ← hke, hE]; rfl
    have hp := e.2.den_pos
    have hq : ((denL l : Nat) : Int) / (e.2.den : Int) = ((denL l / e.2.den : Nat) : Int) := (Int.natCast_ediv _ _).symm
    have w : CMulW e.2.num (((denL l : Nat) : Int) / (e.2.den : Int)) := by
      rw [hq]
      exact mulW (a := 4000) (b := 400000) (hn e he) (by rw [Int.natAbs_natCast]; exact Nat.lt_of_le_of_lt (Nat.div_le_self _ _) hD) (by decide) (by decide) (by decide)
    refine ⟨E1, by rw [hE]; rfl, rfl, E.tup (xs := [.lst (cyL c (cyc e.1)), .str (xs c (wrd e.1)), .int (e.2.num * (((denL l : Nat) : Int) / (e.2.den : Int)))]) (E.cons (E.map (E.bin v2 rfl rfl) rfl) (E.cons (E.bin v2 rfl rfl) (E.cons (E.bin (f_num hg) (E.bin v1 (f_den hg) (gDivL (by omega) ?_)) (gMul_int w)) rfl))) (by show (3 : Nat) ≤ 100000; decide)⟩
    rw [Int.natAbs_natCast]
    exact Nat.lt_of_lt_of_le (hd e he) (by decide)
  exact E.runD_rt (E.seq (e1 := owE kind l 1 none none) (E.set rfl rfl) (E.seq (E.for_ (l := dks l) (E.it_t (f_terms rfl)) g1) (E.ret (E.lst (E.cons hcomp (E.cons rfl rfl)) (by show (2 : Nat) ≤ 100000; decide)))))
end Pd73

/-! k73, the law's defs: short polynomials, values that stay. -/
namespace Pd73
open PySem PySem.Spec PyProof.Rows L2 Pd
local macro_rules | `(tactic| trivial) => `(tactic| first
  | assumption
  | (with_reducible apply E.var) <;> rfl
  | with_reducible exact E.next
  | (with_reducible apply E.bin) <;> trivial
  | (with_reducible apply E.map) <;> trivial
  | (with_reducible apply E.cons) <;> trivial
  | (with_reducible apply E.neg) <;> trivial
  | (with_reducible apply E.bb) <;> trivial
  | (with_reducible apply E.not) <;> trivial
  | (with_reducible apply E.tup) <;> trivial
  | (with_reducible apply E.lst) <;> trivial
  | (with_reducible apply E.call) <;> trivial
  | (with_reducible apply E.make) <;> trivial
  | (with_reducible apply E.ixO) <;> trivial
  | (with_reducible apply E.set) <;> trivial
  | (with_reducible apply E.setO) <;> trivial
  | (with_reducible apply E.ret) <;> trivial
  | (with_reducible apply E.app) <;> trivial
  | (with_reducible apply E.rg1) <;> trivial
  | (with_reducible apply E.runD_rt) <;> trivial
  | (with_reducible apply gMod) <;> trivial
  | (with_reducible apply gDiv) <;> trivial
  | (with_reducible apply gMul_int) <;> trivial
  | rfl
  | decide
  | omega)
/-- a list or tuple is equal to itself -/
theorem gEq_refl {ne : Bool} {d : D} {p : PyData} (hp : dpd d = some p) (h1 : p.canLay0 = true) (h2 : p.depth ≤ 64) (h3 : gEq d d = none) : gEqA ne d d = some (.bl (!ne)) := by
  unfold gEqA gEqD
  rw [h3, hp]
  have hs : SeqAt.shaped p = true := by
    unfold SeqAt.shaped
    rw [h1, decide_eq_true h2]
    rfl
  have he : PyData.eqv p p = true := SeqAt.eqv_refl p h1
  simp [hs, he]
theorem dpds_ints : ∀ l : List Int, dpds (l.map D.int) = some (l.map PyData.int)
  | [] => rfl
  | x :: l => by rw [List.map_cons, dpds, dpds_ints l]; rfl
theorem lay_ints : ∀ l : List Int, PyData.canLayAll0 (l.map PyData.int) = true
  | [] => rfl
  | x :: l => by rw [List.map_cons, PyData.canLayAll0, lay_ints l]; rfl
theorem depth_ints : ∀ l : List Int, PyData.depthAll (l.map PyData.int) = 0
  | [] => by simp [PyData.depthAll]
  | x :: l => by simp [PyData.depthAll, PyData.depth, depth_ints l]
theorem gEq_ints {ne : Bool} (l : List Int) : gEqA ne (.lst (l.map D.int)) (.lst (l.map D.int)) = some (.bl (!ne)) :=
  gEq_refl (p := .list (l.map .int)) (by rw [dpd, dpds_ints]; rfl) (by rw [PyData.canLay0]; exact lay_ints l) (by rw [PyData.depth, depth_ints]; decide) rfl
theorem mul_len {c w : Nat} {f g : DP} {env : DEnv} (hw : w ≤ 1000) (hf : f env = some (.str (xs c 1))) (hg : g env = some (.str (xs c w))) : dBin gMul f (dMap gLen g) env = some (.str (xs c w)) := E.bin hf (E.map hg (gLen_xs c hw)) (gMulX c hw)
def shE (kind : Str) (l : PL) (c n : Nat) (x4 x5 x6 : Option (D × Fl)) : DEnv := [some (pD kind l, .fz), some (.str kind, .fz), some (.str (xs c 1), .fz), some (.int n, .fz), x4, x5, x6]
def bSh1 : DS := (dIf (dOr (dB (dBin (gEqA true) (dVar 6) (dBin gMul (dVar 2) (dMap gLen (dVar 6))))) (dOr (dB (dBin (gLt) (dMap gLen (dVar 6)) (dC (.int 1)))) (dB (dBin (gIB fun i j => decide (j < i)) (dMap gLen (dVar 6)) (dVar 3))))) (dRet (dC (.bl false))) dNext)
def bSh : DS := (dSeq (dIf (dOr (dB (dBin (gEqA true) (dVar 5) (dBin gMul (dVar 2) (dMap gLen (dVar 5))))) (dB (dBin (gIB fun i j => decide (j ≤ i)) (dMap gLen (dVar 5)) (dVar 3)))) (dRet (dC (.bl false))) dNext) (dFor (.nm 6) (dIt (dVar 4)) bSh1))
theorem gIB_of {g : Int → Int → Bool} {i j : Int} {b : Bool} (h : g i j = b) : gIB g (.int i) (.int j) = some (.bl b) := by rw [← h]; rfl
theorem is_short_eq {kind : Str} {l : PL} {c n : Nat} (hs : Sho c n l) (hn : n ≤ 3) : m__law_is_short [pD kind l, .str kind, .str (xs c 1), .int n] = some (.bl true) := by
  obtain ⟨⟨x4, x5, x6⟩, g1, _⟩ := E.fold (enc := fun e : KY × Rat => kD e.1) (tt := .tp [4, 5]) (body := bSh) (mk := fun (_ : Unit) (x : Option (D × Fl) × Option (D × Fl) × Option (D × Fl)) => shE kind l c n x.1 x.2.1 x.2.2) (f := fun s _ => s) (I := fun _ _ => True) (A := l) (s := ()) (x := (none, none, none)) (fun r s x e he _ => by
    obtain ⟨ns, w, e1, h1, h2, h3⟩ := hs e he
    obtain ⟨y6, g, _⟩ := E.fold (enc := fun j => D.str (xs c j)) (tt := .nm 6) (body := bSh1) (mk := fun (_ : Unit) (x : Option (D × Fl)) => shE kind l c n (some (.tup (cyL c ns), .fz)) (some (.str (xs c w), .fz)) x) (f := fun s _ => s) (I := fun _ _ => True) (A := ns) (s := ()) (x := x.2.2) (fun r s y j hj _ => by
      obtain ⟨j1, j2⟩ := h2 j hj
      refine ⟨_, some (.str (xs c j), .fz), rfl, ?_, True.intro⟩
      have hl : gLen (.str (xs c j)) = some (.int (j : Int)) := gLen_xs c (by omega)
      exact E.if_f (E.or_f (E.bb (E.bin (x := .str (xs c j)) rfl (mul_len (w := j) (by omega) rfl rfl) (gEq_str_t rfl))) (E.or_f (E.bb (E.bin (x := .int (j : Int)) (E.map (x := .str (xs c j)) rfl hl) rfl (gLt_f (by omega)))) (E.bb (E.bin (x := .int (j : Int)) (E.map (x := .str (xs c j)) rfl hl) rfl (gIB_of (decide_eq_false (by omega))))))) E.next) True.intro
    refine ⟨shE kind l c n (some (.tup (cyL c ns), .fz)) (some (.str (xs c w), .fz)) x.2.2, (some (.tup (cyL c ns), .fz), some (.str (xs c w), .fz), y6), by rw [e1, kD_ku]; rfl, ?_, True.intro⟩
    have hl : gLen (.str (xs c w)) = some (.int (w : Int)) := gLen_xs c (by omega)
    exact E.seq (E.if_f (E.or_f (E.bb (E.bin (x := .str (xs c w)) rfl (mul_len (w := w) (by omega) rfl rfl) (gEq_str_t rfl))) (E.bb (E.bin (x := .int (w : Int)) (E.map (x := .str (xs c w)) rfl hl) rfl (gIB_of (decide_eq_false (by omega)))))) E.next) (E.for_ (l := ns.map fun j => D.str (xs c j)) (E.it_t rfl) g)) True.intro
  refine E.runD_rt (E.seq (E.if_f (E.or_f (E.not (b := true) (E.bb (E.isO rfl))) (E.bb (E.bin (f_kind rfl) rfl (gEq_str_t rfl)))) E.next) (E.seq (E.for_ (l := dks l) (E.it_t (f_terms rfl)) g1) (E.ret rfl)))
end Pd73

/-! k73, the law's defs: the value of the answer is the own value. -/
namespace Pd73
open PySem PySem.Spec PyProof.Rows L2 Pd
local macro_rules | `(tactic| trivial) => `(tactic| first
  | assumption
  | (with_reducible apply E.var) <;> rfl
  | with_reducible exact E.next
  | (with_reducible apply E.bin) <;> trivial
  | (with_reducible apply E.map) <;> trivial
  | (with_reducible apply E.cons) <;> trivial
  | (with_reducible apply E.neg) <;> trivial
  | (with_reducible apply E.bb) <;> trivial
  | (with_reducible apply E.not) <;> trivial
  | (with_reducible apply E.tup) <;> trivial
  | (with_reducible apply E.lst) <;> trivial
  | (with_reducible apply E.call) <;> trivial
  | (with_reducible apply E.make) <;> trivial
  | (with_reducible apply E.ixO) <;> trivial
  | (with_reducible apply E.set) <;> trivial
  | (with_reducible apply E.setO) <;> trivial
  | (with_reducible apply E.ret) <;> trivial
  | (with_reducible apply E.app) <;> trivial
  | (with_reducible apply E.rg1) <;> trivial
  | (with_reducible apply E.runD_rt) <;> trivial
  | (with_reducible apply gMod) <;> trivial
  | (with_reducible apply gDiv) <;> trivial
  | (with_reducible apply gMul_int) <;> trivial
  | rfl
  | decide
  | omega)
section
variable {n : Nat} {f : MI}
theorem vI_lt (hn : n ≤ 3) (hf : ∀ i j, i < n → j < n → (f i j).natAbs ≤ 3) {t : TM} (ht : Vl t) : (vI (tI n f) t).natAbs < 2 ^ 401320 := by
  have := fold_lt (p := tI n f) (fun j hj => tI_lt hn hf hj) (x := t.2.2) ht.j ht.n
  exact Nat.lt_of_lt_of_le this (Nat.pow_le_pow_right (by decide) (by have := ht.l; omega))
theorem foldsum_le {α : Type} {v : α → Int} {b : Nat} : ∀ {ts : List α} {s : Int} {k : Nat}, (∀ t ∈ ts, (v t).natAbs ≤ b) → s.natAbs ≤ k * b → (ts.foldl (fun s t => s + v t) s).natAbs ≤ (k + ts.length) * b
  | [], s, k, _, h => h
  | t :: ts, s, k, h, hs => by
    have h1 := h t List.mem_cons_self
    have := foldsum_le (ts := ts) (s := s + v t) (k := k + 1) (fun u hu => h u (List.mem_cons_of_mem _ hu)) (by rw [Nat.succ_mul]; omega)
    rw [List.foldl_cons, List.length_cons, show k + (ts.length + 1) = k + 1 + ts.length by omega]
    exact this
theorem big {x k b e : Nat} (h : x ≤ k * 2 ^ b) (hk : k < 2 ^ 13) (he : b + 13 ≤ e) : x < 2 ^ e := by
  refine Nat.lt_of_le_of_lt h (Nat.lt_of_lt_of_le (Nat.mul_lt_mul_of_pos_right hk (Nat.pow_pos (by decide))) ?_)
  rw [← Nat.pow_add]
  exact Nat.pow_le_pow_right (by decide) (by omega)
theorem totI_lt (hn : n ≤ 3) (hf : ∀ i j, i < n → j < n → (f i j).natAbs ≤ 3) {ts : List TM} (ht : ∀ t ∈ ts, Vl t) (hl : ts.length ≤ 4900) : (totI n f ts).natAbs < 2 ^ 401400 := by
  have := foldsum_le (v := vI (tI n f)) (b := 2 ^ 401320) (ts := ts) (s := 0) (k := 0) (fun t hm => Nat.le_of_lt (vI_lt hn hf (ht t hm))) (by simp)
  exact big (k := 0 + ts.length) (b := 401320) this (Nat.lt_of_le_of_lt (by omega : 0 + ts.length ≤ 4900) (by decide)) (by decide)
theorem rowI_lt (hn : n ≤ 3) (hf : ∀ i j, i < n → j < n → (f i j).natAbs ≤ 3) {ts : List TM} (ht : ∀ t ∈ ts, Vl t) (hl : ts.length ≤ 4900) {i j : Nat} (hi : i < n) (hj : j < n) : (rowI n f ts i j).natAbs < 2 ^ 401400 := by
  have := foldsum_le (v := fun t : TM => vI (tI n f) t * pI n f t.2.1 i j) (b := 2 ^ 401384) (ts := ts) (s := 0) (k := 0) (fun t hm => by
    have h1 := vI_lt hn hf (ht t hm)
    have h2 := pI_lt hn hf (ht t hm).w hi hj
    rw [Int.natAbs_mul, show 401384 = 401320 + 64 from rfl, Nat.pow_add]
    exact Nat.le_of_lt (Nat.mul_lt_mul'' h1 h2)) (by simp)
  exact big (k := 0 + ts.length) (b := 401384) this (Nat.lt_of_le_of_lt (by omega : 0 + ts.length ≤ 4900) (by decide)) (by decide)
end
theorem Dg.vl {mk : Bool} {t : TM} (h : Dg mk t) : Vl t := ⟨fun j hj => h.le hj, by have := len_le_sum h.j; have := h.d; omega, by have := h.d; omega, Nat.lt_of_lt_of_le h.n (Nat.pow_le_pow_right (by decide) (by decide))⟩
section
variable {c n over : Nat} {mk : Bool} {ts : List TM} {f : MI}
/-- facts about the answer -/
structure Ans (c n : Nat) (l : PL) : Prop where
  can : Can l
  sho : Sho c n l
  len : l.length ≤ 4900
  den : ∀ e ∈ l, e.2.den < 2 ^ 70
  num : ∀ e ∈ l, e.2.num.natAbs < 2 ^ 4000
  deg : ∀ e ∈ l, (cyc e.1).sum + wrd e.1 ≤ 20
theorem ans_of (ok : PolyOk mk over ts) (hn : n ≤ 3) (h1 : 1 ≤ n) : Ans c n (red c n mk [] (polyP c over ts)) := by
  have h := poly_inp (c := c) ok
  have t := red_tot h hn h1
  have hm : 0 < over * 6 ^ 20 := Nat.mul_pos ok.d0 (by decide)
  have hb : nr over (polyP c over ts) * 54 ^ 20 < 2 ^ 4000 := Nat.lt_of_le_of_lt (Nat.mul_le_mul_right _ h.fit.n) h.hb
  refine ⟨t.can, red_sho h hn h1, by have := t.len hn; omega, fun e he => ?_, fun e he => (t.fit.ok hm h.hK hb e he).n, fun e he => ?_⟩
  · have h2 := in_den hm (t.fit.i e he)
    have h3 : over * 6 ^ 20 ≤ 100 * 6 ^ 20 := Nat.mul_le_mul_right _ ok.d1
    exact Nat.lt_of_le_of_lt (Nat.le_trans h2 h3) (by decide)
  · obtain ⟨ns, w, e1, _, _, _, h5⟩ := t.key e he
    rw [e1, cyc_uk, wrd_uk]
    exact h5
theorem Ans.keys {l : PL} (h : Ans c n l) : ∀ e ∈ l, ∃ ns w, e.1 = uk c ns w := fun e he => by
  obtain ⟨ns, w, e1, _⟩ := h.sho e he
  exact ⟨ns, w, e1⟩
theorem denL_pos (l : PL) : 0 < denL l := fold_pos l (by decide)
theorem Ans.denL {l : PL} (h : Ans c n l) : denL l < 2 ^ 343001 := Nat.lt_of_lt_of_le (fold_lt2 l (b := 1) (by decide) h.den) (Nat.pow_le_pow_right (by decide) (by have := h.len; omega))
theorem Ans.vl {l : PL} (h : Ans c n l) (hn : n ≤ 3) : ∀ t ∈ ownT (Pd73.denL l) l, Vl t := fun t ht => by
  obtain ⟨e, he, rfl⟩ := List.mem_map.mp ht
  obtain ⟨ns, w, e1, h2, h3, h4⟩ := h.sho e he
  have hd := h.deg e he
  rw [e1, cyc_uk, wrd_uk] at hd
  refine ⟨fun j hj => ?_, ?_, ?_, ?_⟩
  · have hj' : j ∈ cyc e.1 := hj
    rw [e1, cyc_uk] at hj'
    have := h3 j hj'
    omega
  · show (cyc e.1).length ≤ 20
    rw [e1, cyc_uk]
    have := len_le_sum (fun x hx => (h3 x hx).1)
    omega
  · show wrd e.1 ≤ 20
    rw [e1, wrd_uk]
    omega
  · show (e.2.num * ((Pd73.denL l : Int) / (e.2.den : Int))).natAbs < 2 ^ 400000
    have hq : ((Pd73.denL l : Nat) : Int) / (e.2.den : Int) = ((Pd73.denL l / e.2.den : Nat) : Int) := (Int.natCast_ediv _ _).symm
    rw [hq, Int.natAbs_mul, Int.natAbs_natCast]
    have h1 := Nat.mul_lt_mul'' (h.num e he) (Nat.lt_of_le_of_lt (Nat.div_le_self (Pd73.denL l) e.2.den) h.denL)
    rw [← Nat.pow_add] at h1
    exact Nat.lt_of_lt_of_le h1 (Nat.pow_le_pow_right (by decide) (by decide))
theorem over_ne {k : Nat} (h : 0 < k) : (k : Rat) ≠ 0 := by
  intro z
  have : k = 0 := by exact_mod_cast z
  omega
/-- both values, as functionals -/
theorem vals_eq (ok : PolyOk mk over ts) (hn : n ≤ 3) (h1 : 1 ≤ n) (Q : Nat → Rat) (h0 : ∀ w, (mk = false → w = 0) → S (gv (trp' n (fR f)) Q) (mon0 c n mk w) = Q w) {A B : Int} (l : PL) (hl : l = red c n mk [] (polyP c over ts))
    (hA : (A : Rat) = sumT (fun ns w => prR (trp' n (fR f)) ns * Q w) ts) (hB : (B : Rat) = sumT (fun ns w => prR (trp' n (fR f)) ns * Q w) (ownT (denL l) l)) : A * (denL l : Nat) = B * (over : Nat) := by
  have h := poly_inp (c := c) ok
  have hr := red_val h hn h1 (fR f) Q h0
  have a := ans_of (c := c) (n := n) ok hn h1
  rw [← hl] at hr a
  have e1 : sumT (fun ns w => prR (trp' n (fR f)) ns * Q w) (ownT (denL l) l) = (denL l : Rat) * S (gv (trp' n (fR f)) Q) l := sumT_own _ _ _ l (fold_dvd l 1).2 fun e _ => rfl
  have e2 : S (gv (trp' n (fR f)) Q) (polyP c over ts) = (1 / (over : Rat)) * sumT (fun ns w => prR (trp' n (fR f)) ns * Q w) ts := by
    rw [S_poly]
    congr 1
    exact sumT_congr fun t _ => gv_ku _ _ c t.1 t.2.1
  have hz := over_ne ok.d0
  rw [e1, hr, e2, ← hA] at hB
  have key : ((A * (denL l : Nat) : Int) : Rat) = ((B * (over : Nat) : Int) : Rat) := by
    rw [Rat.intCast_mul, Rat.intCast_mul, hB]
    have e3 : (((denL l : Nat) : Int) : Rat) = (denL l : Rat) := rfl
    have e4 : (((over : Nat) : Int) : Rat) = (over : Rat) := rfl
    rw [e3, e4]
    grind
  exact Rat.intCast_inj.mp key
end
end Pd73

/-! k73, the law's defs: the value stays. -/
namespace Pd73
open PySem PySem.Spec PyProof.Rows L2 Pd
local macro_rules | `(tactic| trivial) => `(tactic| first
  | assumption
  | (with_reducible apply E.var) <;> rfl
  | with_reducible exact E.next
  | (with_reducible apply E.bin) <;> trivial
  | (with_reducible apply E.map) <;> trivial
  | (with_reducible apply E.cons) <;> trivial
  | (with_reducible apply E.neg) <;> trivial
  | (with_reducible apply E.bb) <;> trivial
  | (with_reducible apply E.not) <;> trivial
  | (with_reducible apply E.tup) <;> trivial
  | (with_reducible apply E.lst) <;> trivial
  | (with_reducible apply E.call) <;> trivial
  | (with_reducible apply E.make) <;> trivial
  | (with_reducible apply E.ixO) <;> trivial
  | (with_reducible apply E.set) <;> trivial
  | (with_reducible apply E.setO) <;> trivial
  | (with_reducible apply E.ret) <;> trivial
  | (with_reducible apply E.app) <;> trivial
  | (with_reducible apply E.rg1) <;> trivial
  | (with_reducible apply E.runD_rt) <;> trivial
  | (with_reducible apply gMod) <;> trivial
  | (with_reducible apply gDiv) <;> trivial
  | (with_reducible apply gMul_int) <;> trivial
  | rfl
  | decide
  | omega)
section
variable {c n over : Nat} {mk : Bool} {ts : List TM} {f : MI}
/-- [entry * k for entry in rows[at]] -/
theorem row_times {env : DEnv} {g h : DP} {F : MI} {k : Int} {i : Nat} (hi : i < n) (hn : n ≤ 3) (hg : g env = some (rowD n (F i))) (hh : ∀ x, h ((wipeE env [11]).set 11 (some (x, .fz))) = some (.int k)) (hl : 11 < env.length) (hw : ∀ j, j < n → CMulW (F i j) k) :
    dLc [11] (.nm 11) (dIt g) dYes (dBin gMul (dVar 11) h) env = some (.lst (((List.range n).map fun j => F i j * k).map D.int)) := by
  have hs : smallL = 100000 := rfl
  refine E.lc (l := (List.range n).map fun j => .int (F i j)) (E.it_l hg) (by rw [List.length_map, List.length_range]; omega) (E.comp (by simp) fun a x y hx hy => ?_)
  rw [List.getElem?_map] at hx
  obtain ⟨j, h1, rfl⟩ := Option.map_eq_some_iff.mp hx
  rw [List.map_map, List.getElem?_map, h1] at hy
  cases hy
  have hj : j < n := by
    have := List.mem_of_getElem? h1
    exact List.mem_range.mp this
  refine ⟨_, rfl, rfl, E.bin (x := .int (F i j)) (y := .int k) (E.var ?_) (hh _) (gMul_int (hw j hj))⟩
  rw [List.getElem?_set_self]
  unfold wipeE wipeE
  rw [List.length_set]
  exact hl
def vsE (kl : Str) (l : PL) (c n over : Nat) (ts : List TM) (f : MI) (x7 x8 x9 x10 : Option (D × Fl)) : DEnv := [some (pD kl l, .fz), some (.str kl, .fz), some (tmL c ts, .fz), some (.int over, .fz), some (.str (xs c 1), .fz), some (.int n, .fz), some (rowsD n f, .fz), x7, x8, x9, x10, none]
theorem stays_eq (ok : PolyOk mk over ts) (hn : n ≤ 3) (h1 : 1 ≤ n) (hf : ∀ i j, i < n → j < n → (f i j).natAbs ≤ 3) : m__law_value_stays [pD (kindOf mk) (red c n mk [] (polyP c over ts)), .str (kindOf mk), tmL c ts, .int over, .str (xs c 1), .int n, rowsD n f] = some (.bl true) := by
  have hs : smallL = 100000 := rfl
  obtain ⟨l, hl⟩ : ∃ l, l = red c n mk [] (polyP c over ts) := ⟨_, rfl⟩
  have a := ans_of (c := c) (n := n) ok hn h1
  rw [← hl] at a ⊢
  have q1 := is_short_eq (kind := kindOf mk) a.sho hn
  have q2 := own_eq (kind := kindOf mk) a.can a.keys a.len a.den a.num
  have vt : ∀ t ∈ ts, Vl t := fun t ht => (ok.t t ht).vl
  have vo := a.vl hn
  have q3 := in_one_eq (c := c) (mk := mk) hn hf vt
  have q4 := in_one_eq (c := c) (mk := mk) hn hf vo
  have lo : (ownT (denL l) l).length ≤ 4900 := by unfold ownT; rw [List.length_map]; exact a.len
  have lt : ts.length ≤ 4900 := by have := ok.l; omega
  obtain ⟨dn, hdn⟩ : ∃ d : Nat, d = denL l := ⟨_, rfl⟩
  have dlt : dn < 2 ^ 343001 := by rw [hdn]; exact a.denL
  have olt : over < 2 ^ 10 := by have := ok.d1; omega
  rw [← hdn] at q2 q4 vo lo
  let own : List TM := ownT dn l
  let T : D := .lst [tmL c own, .int (dn : Nat)]
  obtain ⟨V1, hV1⟩ : ∃ V, V = (if mk then rowsD n (rowI n f ts) else .int (totI n f ts)) := ⟨_, rfl⟩
  obtain ⟨V2, hV2⟩ : ∃ V, V = (if mk then rowsD n (rowI n f own) else .int (totI n f own)) := ⟨_, rfl⟩
  rw [← hV1] at q3
  have q4' : m__law_in_one [tmL c own, .str (kindOf mk), .int n, rowsD n f] = some V2 := q4.trans (by rw [hV2])
  have t0 : ∀ env : DEnv, env[7]? = some (some (T, Fl.fz)) → dBin gIx (dVar 7) (dC (.int 0)) env = some (tmL c own) := fun env h => E.bin (x := T) (E.var h) rfl rfl
  have t1 : ∀ env : DEnv, env[7]? = some (some (T, Fl.fz)) → dBin gIx (dVar 7) (dC (.int 1)) env = some (.int (dn : Nat)) := fun env h => E.bin (x := T) (E.var h) rfl rfl
  refine E.runD_rt (E.seq (E.if_f (E.not (b := true) (E.bb (E.call (xs := [pD (kindOf mk) l, .str (kindOf mk), .str (xs c 1), .int n]) rfl rfl q1))) E.next) (E.seq (e1 := vsE (kindOf mk) l c n over ts f (some (T, .fz)) none none none) (E.set (E.call (xs := [pD (kindOf mk) l]) rfl rfl q2) rfl) (E.seq (E.if_f (E.bb (E.bin (x := T) (y := .non) rfl rfl rfl)) E.next) (E.seq (e1 := vsE (kindOf mk) l c n over ts f (some (T, .fz)) (some (V1, .fz)) none none) (E.set (E.call (xs := [tmL c ts, .str (kindOf mk), .int n, rowsD n f]) rfl rfl q3) rfl) (E.seq (e1 := vsE (kindOf mk) l c n over ts f (some (T, .fz)) (some (V1, .fz)) (some (V2, .fz)) none) (E.set (E.call (xs := [tmL c own, .str (kindOf mk), .int n, rowsD n f]) (E.cons (t0 _ rfl) rfl) rfl q4') rfl) ?_)))))
  cases mk with
  | false =>
    have e1 : V1 = .int (totI n f ts) := by rw [hV1]; rfl
    have e2 : V2 = .int (totI n f own) := by rw [hV2]; rfl
    have ke : totI n f ts * (dn : Nat) = totI n f own * (over : Nat) := by
      have := vals_eq (f := f) (A := totI n f ts) (B := totI n f own) ok hn h1 (fun _ => 1) (fun w hw => mon0_num (fR f) w) l hl (totI_cast n f ts) (by rw [totI_cast]; show sumT _ (ownT dn l) = _; rw [hdn])
      rw [← hdn] at this
      exact this
    have w1 : CMulW (totI n f ts) (dn : Int) := mulW (a := 401400) (b := 343001) (totI_lt hn hf vt lt) (by rw [Int.natAbs_natCast]; exact dlt) (by decide) (by decide) (by decide)
    have w2 : CMulW (totI n f own) (over : Int) := mulW (a := 401400) (b := 10) (totI_lt hn hf vo lo) (by rw [Int.natAbs_natCast]; exact olt) (by decide) (by decide) (by decide)
    rw [e1, e2]
    exact E.seq_rt (E.if_t (E.bb (E.bin (x := .str (kindOf false)) (y := .str "number") rfl rfl (gEq_str_t (by decide +kernel)))) (E.ret (E.bin (x := .int (totI n f ts * (dn : Nat))) (y := .int (totI n f own * (over : Nat))) (E.bin (x := .int (totI n f ts)) rfl (t1 _ rfl) (gMul_int w1)) (E.bin (x := .int (totI n f own)) (y := .int over) rfl rfl (gMul_int w2)) (gEq_int_t ke))))
  | true =>
    have e1 : V1 = rowsD n (rowI n f ts) := by rw [hV1]; rfl
    have e2 : V2 = rowsD n (rowI n f own) := by rw [hV2]; rfl
    have ke : ∀ i j, i < n → j < n → rowI n f ts i j * (dn : Nat) = rowI n f own i j * (over : Nat) := fun i j hi hj => by
      have := vals_eq (f := f) (A := rowI n f ts i j) (B := rowI n f own i j) ok hn h1 (fun w => pw n (fR f) w i j) (fun w _ => mon0_mat hn h1 (fR f) hi hj w) l hl (rowI_cast n f ts i j) (by rw [rowI_cast]; show sumT _ (ownT dn l) = _; rw [hdn])
      rw [← hdn] at this
      exact this
    rw [e1, e2]
    obtain ⟨e, g1, g2⟩ := E.loop (tt := .nm 10) (body := (dIf (dB (dBin (gEqA true) (dLc [11] (.nm 11) (dIt (dBin gIx (dVar 8) (dVar 10))) dYes (dBin gMul (dVar 11) (dBin gIx (dVar 7) (dC (.int 1))))) (dLc [11] (.nm 11) (dIt (dBin gIx (dVar 9) (dVar 10))) dYes (dBin gMul (dVar 11) (dVar 3))))) (dRet (dC (.bl false))) dNext)) (l := rangeD 0 (n : Int)) (P := fun a e => ∃ x10, e = vsE (kindOf true) l c n over ts f (some (T, .fz)) (some (rowsD n (rowI n f ts), .fz)) (some (rowsD n (rowI n f own), .fz)) x10) (fun i e d hd0 hP => by
      obtain ⟨x10, rfl⟩ := hP
      rw [rangeD0'] at hd0
      obtain ⟨hi, rfl⟩ := range_at hd0
      refine ⟨_, vsE (kindOf true) l c n over ts f (some (T, .fz)) (some (rowsD n (rowI n f ts), .fz)) (some (rowsD n (rowI n f own), .fz)) (some (.int (i : Int), .fz)), rfl, ?_, _, rfl⟩
      have r1 := row_times (env := vsE (kindOf true) l c n over ts f (some (T, .fz)) (some (rowsD n (rowI n f ts), .fz)) (some (rowsD n (rowI n f own), .fz)) (some (.int (i : Int), .fz))) (g := dBin gIx (dVar 8) (dVar 10)) (h := dBin gIx (dVar 7) (dC (.int 1))) (F := rowI n f ts) (k := (dn : Nat)) hi hn (E.bin (x := rowsD n (rowI n f ts)) (y := .int (i : Int)) rfl rfl (rowsD_ix _ hi)) (fun x => t1 _ rfl) (by decide : 11 < 12) fun j hj => mulW (a := 401400) (b := 343001) (rowI_lt hn hf vt lt hi hj) (by rw [Int.natAbs_natCast]; exact dlt) (by decide) (by decide) (by decide)
      have r2 := row_times (env := vsE (kindOf true) l c n over ts f (some (T, .fz)) (some (rowsD n (rowI n f ts), .fz)) (some (rowsD n (rowI n f own), .fz)) (some (.int (i : Int), .fz))) (g := dBin gIx (dVar 9) (dVar 10)) (h := dVar 3) (F := rowI n f own) (k := (over : Nat)) hi hn (E.bin (x := rowsD n (rowI n f own)) (y := .int (i : Int)) rfl rfl (rowsD_ix _ hi)) (fun x => rfl) (by decide : 11 < 12) fun j hj => mulW (a := 401400) (b := 10) (rowI_lt hn hf vo lo hi hj) (by rw [Int.natAbs_natCast]; exact olt) (by decide) (by decide) (by decide)
      have eL : ((List.range n).map fun j => rowI n f ts i j * (dn : Nat)) = (List.range n).map fun j => rowI n f own i j * (over : Nat) := List.map_congr_left fun j hj => ke i j hi (List.mem_range.mp hj)
      rw [← eL] at r2
      exact E.if_f (E.bb (E.bin r1 r2 (gEq_ints _))) E.next) (env := vsE (kindOf true) l c n over ts f (some (T, .fz)) (some (rowsD n (rowI n f ts), .fz)) (some (rowsD n (rowI n f own), .fz)) none) ⟨none, rfl⟩
    obtain ⟨x10, rfl⟩ := g2
    exact E.seq (E.if_f (E.bb (E.bin (x := .str (kindOf true)) (y := .str "number") rfl rfl (gEq_str_f (by decide +kernel)))) E.next) (E.seq (E.for_ (E.rg1 (k := (n : Int)) rfl (by omega)) g1) (E.ret rfl))
end
end Pd73

/-! k73, the law's defs: equal polynomials. -/
namespace Pd73
open PySem PySem.Spec PyProof.Rows L2 Pd
local macro_rules | `(tactic| trivial) => `(tactic| first
  | assumption
  | (with_reducible apply E.var) <;> rfl
  | with_reducible exact E.next
  | (with_reducible apply E.bin) <;> trivial
  | (with_reducible apply E.map) <;> trivial
  | (with_reducible apply E.cons) <;> trivial
  | (with_reducible apply E.neg) <;> trivial
  | (with_reducible apply E.bb) <;> trivial
  | (with_reducible apply E.not) <;> trivial
  | (with_reducible apply E.tup) <;> trivial
  | (with_reducible apply E.lst) <;> trivial
  | (with_reducible apply E.call) <;> trivial
  | (with_reducible apply E.make) <;> trivial
  | (with_reducible apply E.ixO) <;> trivial
  | (with_reducible apply E.set) <;> trivial
  | (with_reducible apply E.setO) <;> trivial
  | (with_reducible apply E.ret) <;> trivial
  | (with_reducible apply E.app) <;> trivial
  | (with_reducible apply E.rg1) <;> trivial
  | (with_reducible apply E.runD_rt) <;> trivial
  | (with_reducible apply gMod) <;> trivial
  | (with_reducible apply gDiv) <;> trivial
  | (with_reducible apply gMul_int) <;> trivial
  | rfl
  | decide
  | omega)
theorem comp_none {tt : Tgt} {c : DT} {f : DP} {e : DEnv} : ∀ {l : List D}, (∀ x ∈ l, ∃ e1, tgtE tt x e = some e1 ∧ c e1 = some false) → compL tt c f l e = some []
  | [], _ => rfl
  | x :: l, h => by
    obtain ⟨e1, h1, h2⟩ := h x List.mem_cons_self
    rw [compL, h1]
    dsimp only
    rw [h2]
    dsimp only
    exact comp_none fun y hy => h y (List.mem_cons_of_mem _ hy)
theorem same_eq {q : Rat} {a b : Int} (h : q.num * b = a * (q.den : Int)) (w1 : CMulW q.num b) (w2 : CMulW a (q.den : Int)) : m__law_same_number [rD q, .int a, .int b] = some (.bl true) := by
  have v0 : ∀ env : DEnv, env[0]? = some (some (rD q, Fl.fz)) → dVar 0 env = some (rD q) := fun env h => E.var h
  have i1 : ∀ (b : Bool) (env : DEnv), env[0]? = some (some (rD q, Fl.fz)) → dIsI b (dFld 0 "num" (dVar 0)) env = some (.bl b) := fun b env h => by
    unfold dIsI
    rw [f_num (v0 env h)]
  have hp := q.den_pos
  refine E.runD_rt (E.seq (E.if_f (E.or_f (E.not (b := true) (E.bb (f_isR (v0 _ rfl)))) (E.or_f (E.not (b := true) (E.bb (i1 true _ rfl))) (E.bb (i1 false _ rfl)))) E.next) (E.ret (E.andV_t (E.bin (f_den (v0 _ rfl)) (y := .int 0) rfl (gIB_of (decide_eq_true (by omega)))) (E.bin (E.bin (f_num (v0 _ rfl)) (y := .int b) rfl (gMul_int w1)) (E.bin (x := .int a) rfl (f_den (v0 _ rfl)) (gMul_int w2)) (gEq_int_t h)))))
/-! lists of keys -/
theorem dpds_keys : ∀ l : List KY, dpds (l.map kD) = some (l.map keyP)
  | [] => rfl
  | x :: l => by rw [List.map_cons, dpds, dpds_keys l, dpd_kD]; rfl
theorem lay_strs {c : Nat} (hc : c < 0x110000) : ∀ ns : List Nat, PyData.canLayAll0 ((ns.map (xs c)).map PyData.str) = true
  | [] => rfl
  | n :: ns => by
    rw [List.map_cons, List.map_cons, PyData.canLayAll0, lay_strs hc ns, PyData.canLay0, Bool.and_true]
    unfold PyData.strOk
    rw [Array.all_eq_true']
    intro x hx
    have hx' : x ∈ (xs c n).cps.toList := by simpa using hx
    have : x = c := List.eq_of_mem_replicate (by simpa [xs, tx] using hx')
    subst this
    simpa using hc
theorem lay_key {c : Nat} (hc : c < 0x110000) (ns : List Nat) (w : Nat) : (keyP (uk c ns w)).canLay0 = true := by
  have h := lay_strs hc ns
  have h2 := lay_strs hc [w]
  simp only [List.map_cons, List.map_nil, PyData.canLayAll0, Bool.and_true] at h2
  unfold keyP uk
  simp only [PyData.canLay0, PyData.canLayAll0, Bool.and_true, Bool.and_eq_true] at h2 ⊢
  exact ⟨h, h2⟩
theorem lay_keys {c : Nat} (hc : c < 0x110000) : ∀ {l : List KY}, (∀ k ∈ l, ∃ ns w, k = uk c ns w) → PyData.canLayAll0 (l.map keyP) = true
  | [], _ => rfl
  | k :: l, h => by
    obtain ⟨ns, w, e⟩ := h k List.mem_cons_self
    rw [List.map_cons, PyData.canLayAll0, lay_keys hc fun j hj => h j (List.mem_cons_of_mem _ hj), e, lay_key hc]
    rfl
theorem depth_keys : ∀ l : List KY, PyData.depthAll (l.map keyP) ≤ 8
  | [] => by simp [PyData.depthAll]
  | k :: l => by
    rw [List.map_cons, PyData.depthAll]
    have := keyP_depth k
    have := depth_keys l
    omega
theorem gEq_keys {c : Nat} (hc : c < 0x110000) {ne : Bool} {l : List KY} (h : ∀ k ∈ l, ∃ ns w, k = uk c ns w) : gEqA ne (.lst (l.map kD)) (.lst (l.map kD)) = some (.bl (!ne)) :=
  gEq_refl (p := .list (l.map keyP)) (by rw [dpd, dpds_keys]; rfl) (by rw [PyData.canLay0]; exact lay_keys hc h) (by rw [PyData.depth]; have := depth_keys l; omega) rfl
theorem dks_map (l : PL) : dks l = (l.map (·.1)).map kD := by unfold dks; rw [List.map_map]; rfl
theorem equal_eq {c : Nat} (hc : c < 0x110000) {kind : Str} {l : PL} (hl : (l.map (·.1)).Nodup) (hz : l.length ≤ 4900) (hk : ∀ e ∈ l, ∃ ns w, e.1 = uk c ns w) (ho : ∀ e ∈ l, Ok e.2) : m__law_equal [pD kind l, pD kind l] = some (.bl true) := by
  have hs : smallL = 100000 := rfl
  have hlist : gEqA true (.lst (dks l)) (.lst (dks l)) = some (.bl false) := by
    rw [dks_map]
    exact gEq_keys hc fun k hk2 => by
      obtain ⟨e, he, rfl⟩ := List.mem_map.mp hk2
      exact hk e he
  have hc2 : dLc [2] (.nm 2) (dIt (dFld 1 "terms" (dVar 0))) (dNot (dB (dCall 3 m__law_same_number [] (dCons (dSubO 1 m_Poly___getitem__ (dVar 1) (dVar 2)) (dCons (dFld 0 "num" (dSubO 1 m_Poly___getitem__ (dVar 0) (dVar 2))) (dCons (dFld 0 "den" (dSubO 1 m_Poly___getitem__ (dVar 0) (dVar 2))) dNil)))))) (dVar 2) [some (pD kind l, .fz), some (pD kind l, .fz), none] = some (.lst []) := by
    refine E.lc (l := dks l) (E.it_t (f_terms rfl)) (by rw [dks_length]; omega) (comp_none fun x hx => ?_)
    obtain ⟨e, he, rfl⟩ := List.mem_map.mp hx
    have hq := mem_look hl he
    have g0 : dSubO 1 m_Poly___getitem__ (dVar 0) (dVar 2) [some (pD kind l, .fz), some (pD kind l, .fz), some (kD e.1, .fz)] = some (rD e.2) := f_get rfl rfl hq
    have g1 : dSubO 1 m_Poly___getitem__ (dVar 1) (dVar 2) [some (pD kind l, .fz), some (pD kind l, .fz), some (kD e.1, .fz)] = some (rD e.2) := f_get (kind := kind) (l := l) rfl rfl hq
    have w := ok_W (ho e he).n (den_W (ho e he))
    exact ⟨_, rfl, E.not (b := true) (E.bb (E.call (xs := [rD e.2, .int e.2.num, .int e.2.den]) (E.cons g1 (E.cons (f_num g0) (E.cons (f_den g0) rfl))) rfl (same_eq rfl w w)))⟩
  refine E.runD_rt (E.seq (E.if_f (E.or_f (E.not (b := true) (E.bb (E.isO rfl))) (E.or_f (E.bb (E.bin (f_kind rfl) (f_kind (kind := kind) (l := l) rfl) (gEq_str_t rfl))) (E.bb (E.bin (E.map (f_terms rfl) rfl) (E.map (f_terms (kind := kind) (l := l) rfl) rfl) hlist)))) E.next) (E.ret (E.bin (x := .int 0) (y := .int 0) (E.map hc2 rfl) rfl (gEq_int_t rfl))))
end Pd73

/-! k73, the law's defs: keys, rows, the same polynomial. -/
namespace Pd73
open PySem PySem.Spec PyProof.Rows L2 Pd
local macro_rules | `(tactic| trivial) => `(tactic| first
  | assumption
  | (with_reducible apply E.var) <;> rfl
  | with_reducible exact E.next
  | (with_reducible apply E.bin) <;> trivial
  | (with_reducible apply E.map) <;> trivial
  | (with_reducible apply E.cons) <;> trivial
  | (with_reducible apply E.neg) <;> trivial
  | (with_reducible apply E.bb) <;> trivial
  | (with_reducible apply E.not) <;> trivial
  | (with_reducible apply E.tup) <;> trivial
  | (with_reducible apply E.lst) <;> trivial
  | (with_reducible apply E.call) <;> trivial
  | (with_reducible apply E.make) <;> trivial
  | (with_reducible apply E.ixO) <;> trivial
  | (with_reducible apply E.set) <;> trivial
  | (with_reducible apply E.setO) <;> trivial
  | (with_reducible apply E.ret) <;> trivial
  | (with_reducible apply E.app) <;> trivial
  | (with_reducible apply E.rg1) <;> trivial
  | (with_reducible apply E.runD_rt) <;> trivial
  | (with_reducible apply gMod) <;> trivial
  | (with_reducible apply gDiv) <;> trivial
  | (with_reducible apply gMul_int) <;> trivial
  | rfl
  | decide
  | omega)
def kyE (c : Nat) (ns : List Nat) (w : Nat) (os : List Nat) (x3 x4 x5 : Option (D × Fl)) : DEnv := [some (.lst (cyL c ns), .fz), some (.str (xs c w), .fz), some (.lst (cyL c os), .ow), x3, x4, x5]
def qRot : DP := dBin gAdd (dSl (dVar 3) (dPt (dVar 5)) dNoP) (dSl (dVar 3) dNoP (dPt (dVar 5)))
def bKy1 : DS := dIf (dB (dBin (gLt) qRot (dVar 4))) (dSet 4 qRot) dNext
def bKy : DS := (dSeq (dSet 4 (dVar 3)) (dSeq (dFor (.nm 5) (dRg1 (dCons (dMap gLen (dVar 3)) dNil)) bKy1) (dApp 2 (dVar 4))))
theorem rot_eq {c j k : Nat} {env : DEnv} (hj : j ≤ 1000) (hk : k ≤ j) (h3 : dVar 3 env = some (.str (xs c j))) (h5 : dVar 5 env = some (.int (k : Int))) : qRot env = some (.str (xs c j)) := by
  have hs : smallL = 100000 := rfl
  have hl : (xs c j).length ≤ smallL := by rw [xs_len]; omega
  have hk' : k ≤ (xs c j).cps.toList.length := by simp [xs, tx]; omega
  have s1 : dSl (dVar 3) (dPt (dVar 5)) dNoP env = some (.str (tx ((xs c j).cps.toList.drop k))) := by
    unfold dSl dPt dNoP
    rw [h3, h5]
    dsimp only
    unfold gSl
    dsimp only
    rw [if_pos hl, cut_from _ hk']
    rfl
  have s2 : dSl (dVar 3) dNoP (dPt (dVar 5)) env = some (.str (tx ((xs c j).cps.toList.take k))) := by
    unfold dSl dPt dNoP
    rw [h3, h5]
    dsimp only
    unfold gSl
    dsimp only
    rw [if_pos hl, cut_to _ hk']
    rfl
  refine E.bin s1 s2 ?_
  have e1 : (tx ((xs c j).cps.toList.drop k)).length + (tx ((xs c j).cps.toList.take k)).length ≤ smallL := by
    rw [tx_len, tx_len, List.length_drop, List.length_take]
    have : (xs c j).cps.toList.length = j := by simp [xs, tx]
    omega
  rw [gAdd_str e1, tx_app]
  have := rot_xs c hk
  unfold rot at this
  rw [this]
theorem ky_step {c w : Nat} {ns os : List Nat} {j : Nat} {x4 x5 : Option (D × Fl)} (hj : j ≤ 1000) (ho : os.length ≤ 1000) : ∃ y4 y5, bKy (kyE c ns w os (some (.str (xs c j), .fz)) x4 x5) = some (.nx (kyE c ns w (os ++ [j]) (some (.str (xs c j), .fz)) y4 y5)) := by
  have hs : smallL = 100000 := rfl
  obtain ⟨e, g1, g2⟩ := E.loop (tt := .nm 5) (body := bKy1) (l := rangeD 0 (j : Int)) (P := fun a e => ∃ x5, e = kyE c ns w os (some (.str (xs c j), .fz)) (some (.str (xs c j), .fz)) x5) (fun k e d hd0 hP => by
    obtain ⟨x5, rfl⟩ := hP
    rw [rangeD0'] at hd0
    obtain ⟨hk, rfl⟩ := range_at hd0
    refine ⟨_, kyE c ns w os (some (.str (xs c j), .fz)) (some (.str (xs c j), .fz)) (some (.int (k : Int), .fz)), rfl, E.if_f (E.bb (E.bin (x := .str (xs c j)) (y := .str (xs c j)) (rot_eq hj (Nat.le_of_lt hk) rfl rfl) rfl ?_)) E.next, _, rfl⟩
    unfold gLt
    dsimp only
    rw [decide_eq_false (List.lt_irrefl _)]) (env := kyE c ns w os (some (.str (xs c j), .fz)) (some (.str (xs c j), .fz)) x5) ⟨x5, rfl⟩
  obtain ⟨y5, rfl⟩ := g2
  refine ⟨some (.str (xs c j), .fz), y5, E.seq (e1 := kyE c ns w os (some (.str (xs c j), .fz)) (some (.str (xs c j), .fz)) x5) (E.set rfl rfl) (E.seq (E.for_ (E.rg1 (k := (j : Int)) (E.map (x := .str (xs c j)) rfl (gLen_xs c hj)) (by omega)) g1) (E.app (xs := cyL c os) (fl := .ow) (d := .str (xs c j)) rfl (by decide) (by rw [cyL_len]; omega) rfl ?_))⟩
  rw [show [D.str (xs c j)] = cyL c [j] from rfl, cyL_app]
  rfl
theorem law_key_eq {c w : Nat} {ns : List Nat} (h : ∀ j ∈ ns, j ≤ 1000) (hl : ns.length ≤ 500) : m__law_key [.lst (cyL c ns), .str (xs c w)] = some (kD (ku c ns w)) := by
  have hs : smallL = 100000 := rfl
  obtain ⟨⟨x3, x4, x5⟩, g, _⟩ := E.fold (enc := fun j => D.str (xs c j)) (tt := .nm 3) (body := bKy) (mk := fun os (x : Option (D × Fl) × Option (D × Fl) × Option (D × Fl)) => kyE c ns w os x.1 x.2.1 x.2.2) (f := fun os j => os ++ [j]) (I := fun r os => os.length + r ≤ 1000) (A := ns) (s := []) (x := (none, none, none)) (fun r os x j hj hI => by
    obtain ⟨y4, y5, h2⟩ := ky_step (c := c) (w := w) (ns := ns) (os := os) (j := j) (x4 := x.2.1) (x5 := x.2.2) (h j hj) (by omega)
    exact ⟨_, (some (.str (xs c j), .fz), y4, y5), rfl, h2, by rw [List.length_append, List.length_singleton]; omega⟩) (by simp; omega)
  rw [foldl_app (fun j => j), List.nil_append, List.map_id'] at g
  have hsort : dSorted (dPk 2) (kyE c ns w ns x3 x4 x5) = some (.lst (cyL c (ns.mergeSort nle))) := by
    have e1 : cyL c ns = (ns.map (xs c)).map D.str := by unfold cyL; rw [List.map_map]; rfl
    have hp : dPk 2 (kyE c ns w ns x3 x4 x5) = some (.lst ((ns.map (xs c)).map D.str)) := by rw [← e1]; rfl
    unfold dSorted
    rw [hp]
    dsimp only [srcD]
    rw [if_pos ⟨by rw [List.length_map, List.length_map]; omega, sortOk_str _⟩, sortD_str, sort_xs]
    congr 2
    unfold cyL
    rw [List.map_map]
    rfl
  refine E.runD_rt (E.seq (e1 := kyE c ns w [] none none none) (E.setO (E.lst rfl (by decide)) rfl) (E.seq (E.for_ (l := cyL c ns) (E.it_l rfl) g) (E.ret ?_)))
  have := E.tup (env := kyE c ns w ns x3 x4 x5) (fs := dCons (dMap gTuple (dSorted (dPk 2))) (dCons (dVar 1) dNil)) (xs := [.tup (cyL c (ns.mergeSort nle)), .str (xs c w)]) (E.cons (E.map hsort rfl) (E.cons rfl rfl)) (by show (2 : Nat) ≤ 100000; decide)
  rw [this, ← kD_ku]
  rfl
end Pd73

/-! k73, the law's defs: rows, the same polynomial. -/
namespace Pd73
open PySem PySem.Spec PyProof.Rows L2 Pd
local macro_rules | `(tactic| trivial) => `(tactic| first
  | assumption
  | (with_reducible apply E.var) <;> rfl
  | with_reducible exact E.next
  | (with_reducible apply E.bin) <;> trivial
  | (with_reducible apply E.map) <;> trivial
  | (with_reducible apply E.cons) <;> trivial
  | (with_reducible apply E.neg) <;> trivial
  | (with_reducible apply E.bb) <;> trivial
  | (with_reducible apply E.not) <;> trivial
  | (with_reducible apply E.tup) <;> trivial
  | (with_reducible apply E.lst) <;> trivial
  | (with_reducible apply E.call) <;> trivial
  | (with_reducible apply E.make) <;> trivial
  | (with_reducible apply E.ixO) <;> trivial
  | (with_reducible apply E.set) <;> trivial
  | (with_reducible apply E.setO) <;> trivial
  | (with_reducible apply E.ret) <;> trivial
  | (with_reducible apply E.app) <;> trivial
  | (with_reducible apply E.rg1) <;> trivial
  | (with_reducible apply E.runD_rt) <;> trivial
  | (with_reducible apply gMod) <;> trivial
  | (with_reducible apply gDiv) <;> trivial
  | (with_reducible apply gMul_int) <;> trivial
  | rfl
  | decide
  | omega)
/-- sums of whole numbers by keys -/
abbrev PI := List (KY × Int)
def accI1 (l : PI) (e : KY × Int) : PI := put e.1 ((look e.1 l).getD 0 + e.2) l
def accI (l m : PI) : PI := m.foldl accI1 l
def canKI (l : PI) : List KY → PI
  | [] => []
  | k :: ks => match look k l with
    | some r => if r = 0 then canKI l ks else (k, r) :: canKI l ks
    | none => canKI l ks
def canI (l : PI) : PI := canKI l ((l.map (·.1)).mergeSort keyLe)
def ratM (d : Nat) (l : PI) : PL := l.map fun e => (e.1, mkRat e.2 d)
theorem ratM_keys (d : Nat) (l : PI) : (ratM d l).map (·.1) = l.map (·.1) := by unfold ratM; rw [List.map_map]; rfl
theorem look_ratM (d : Nat) (k : KY) : ∀ l : PI, look k (ratM d l) = (look k l).map fun i => mkRat i d
  | [] => rfl
  | e :: l => by
    show look k ((e.1, mkRat e.2 d) :: ratM d l) = _
    rw [look, look]
    split
    · rfl
    · exact look_ratM d k l
theorem put_ratM (d : Nat) (k : KY) (v : Int) : ∀ l : PI, put k (mkRat v d) (ratM d l) = ratM d (put k v l)
  | [] => rfl
  | e :: l => by
    show put k (mkRat v d) ((e.1, mkRat e.2 d) :: ratM d l) = _
    rw [put, put]
    split
    · rfl
    · rw [put_ratM d k v l]; rfl
theorem mkRat_add {d : Nat} (h : 0 < d) (a b : Int) : mkRat a d + mkRat b d = mkRat (a + b) d := by
  have hz := over_ne h
  rw [Rat.mkRat_eq_div, Rat.mkRat_eq_div, Rat.mkRat_eq_div, Rat.intCast_add, Rat.div_def, Rat.div_def, Rat.div_def]
  grind
theorem mkRat_zero {d : Nat} (h : 0 < d) (a : Int) : mkRat a d = 0 ↔ a = 0 := Rat.mkRat_eq_zero (by omega)
theorem acc1_ratM {d : Nat} (h : 0 < d) (l : PI) (e : KY × Int) : acc1 (ratM d l) (e.1, mkRat e.2 d) = ratM d (accI1 l e) := by
  unfold acc1 accI1
  dsimp only
  rw [look_ratM, ← put_ratM]
  congr 1
  cases look e.1 l with
  | none => show mkRat e.2 d = mkRat (0 + e.2) d; rw [Int.zero_add]
  | some s => exact mkRat_add h s e.2
theorem acc_ratM {d : Nat} (h : 0 < d) : ∀ (m l : PI), acc (ratM d l) (ratM d m) = ratM d (accI l m)
  | [], l => rfl
  | e :: m, l => by
    show acc (acc1 (ratM d l) (e.1, mkRat e.2 d)) (ratM d m) = ratM d (accI (accI1 l e) m)
    rw [acc1_ratM h, acc_ratM h m]
theorem canK_ratM {d : Nat} (h : 0 < d) (l : PI) : ∀ ks : List KY, canK (ratM d l) ks = ratM d (canKI l ks)
  | [] => rfl
  | k :: ks => by
    rw [canK, canKI, look_ratM]
    cases look k l with
    | none => exact canK_ratM h l ks
    | some r =>
      dsimp only [Option.map_some]
      by_cases q : r = 0
      · rw [if_pos ((mkRat_zero h r).mpr q), if_pos q]; exact canK_ratM h l ks
      · rw [if_neg (mt (mkRat_zero h r).mp q), if_neg q, canK_ratM h l ks]; rfl
theorem canon_ratM {d : Nat} (h : 0 < d) (l : PI) : canon (ratM d l) = ratM d (canI l) := by
  unfold canon canI
  rw [ratM_keys, canK_ratM h]
def keyI (c : Nat) (ts : List TM) : PI := ts.map fun t => (ku c t.1 t.2.1, t.2.2)
theorem poly_rows {c d : Nat} (h : 0 < d) (ts : List TM) : polyP c d ts = ratM d (canI (accI [] (keyI c ts))) := by
  unfold polyP
  have e : rawP c d ts = ratM d (keyI c ts) := by
    unfold rawP ratM keyI
    rw [List.map_map]
    rfl
  rw [e, ← canon_ratM h, ← acc_ratM h]
  rfl
theorem accI_len (m : PI) : ∀ l : PI, (accI l m).length ≤ l.length + m.length := by
  induction m with
  | nil => intro l; exact Nat.le_refl _
  | cons e m ih =>
    intro l
    have h1 := ih (accI1 l e)
    have h2 : (accI1 l e).length ≤ l.length + 1 := put_len _ _ l
    show (accI (accI1 l e) m).length ≤ _
    rw [List.length_cons]
    omega
/-! rows -/
def rwE (c : Nat) (ts : List TM) (s : PI) (x2 x3 x4 x5 : Option (D × Fl)) : DEnv := [some (tmL c ts, .fz), some (.dic (dks s) (dvs D.int s), .ow), x2, x3, x4, x5]
def bRw : DS := (dSeq (dSet 5 (dCall 2 m__law_key [] (dCons (dVar 2) (dCons (dVar 3) dNil)))) (dDPut 1 (dVar 5) (dBin gAdd (dDGetOr (dPk 1) (dVar 5) (dC (.int 0))) (dVar 4))))
theorem rw_step {c : Nat} {ts : List TM} {s : PI} {t : TM} {x5 : Option (D × Fl)} (h : ∀ j ∈ t.1, j ≤ 1000) (hl : t.1.length ≤ 500) (hs : s.length ≤ 1000) :
    bRw (rwE c ts s (some (.lst (cyL c t.1), .fz)) (some (.str (xs c t.2.1), .fz)) (some (.int t.2.2, .fz)) x5) = some (.nx (rwE c ts (accI1 s (ku c t.1 t.2.1, t.2.2)) (some (.lst (cyL c t.1), .fz)) (some (.str (xs c t.2.1), .fz)) (some (.int t.2.2, .fz)) (some (kD (ku c t.1 t.2.1), .fz)))) := by
  have hsm : smallL = 100000 := rfl
  obtain ⟨k, hk⟩ : ∃ k, k = ku c t.1 t.2.1 := ⟨_, rfl⟩
  have hkey := law_key_eq (c := c) (w := t.2.1) h hl
  rw [← hk] at hkey ⊢
  obtain ⟨E1, hE⟩ : ∃ E1, E1 = rwE c ts s (some (.lst (cyL c t.1), .fz)) (some (.str (xs c t.2.1), .fz)) (some (.int t.2.2, .fz)) (some (kD k, .fz)) := ⟨_, rfl⟩
  have v5 : dVar 5 E1 = some (kD k) := by rw [hE]; rfl
  have v4 : dVar 4 E1 = some (.int t.2.2) := by rw [hE]; rfl
  have p1 : dPk 1 E1 = some (.dic (dks s) (dvs D.int s)) := by rw [hE]; rfl
  have g1 : E1[1]? = some (some (.dic (dks s) (dvs D.int s), Fl.ow)) := by rw [hE]; rfl
  have hget : dDGetOr (dPk 1) (dVar 5) (dC (.int 0)) E1 = some (.int ((look k s).getD 0)) := by
    unfold dDGetOr dC
    rw [p1, v5]
    dsimp only
    rw [tkey_kD]
    dsimp only
    rw [getK_eq]
    cases look k s <;> rfl
  have hv : dBin gAdd (dDGetOr (dPk 1) (dVar 5) (dC (.int 0))) (dVar 4) E1 = some (.int ((look k s).getD 0 + t.2.2)) := E.bin hget v4 rfl
  unfold bRw
  refine E.seq (e1 := E1) (E.set (E.call (xs := [.lst (cyL c t.1), .str (xs c t.2.1)]) rfl rfl hkey) (by rw [hE]; rfl)) ?_
  unfold dDPut
  rw [hv]
  dsimp only
  rw [v5]
  dsimp only
  rw [g1]
  dsimp only
  rw [if_neg (by decide), tkey_kD]
  dsimp only
  rw [if_pos (by rw [dks_length]; omega), putKs_eq k ((look k s).getD 0 + t.2.2), putVs_eq D.int k, hE]
  rfl
def rowI1 (e : KY × Int) : D := .lst [kD e.1, .int e.2]
theorem rows_comp {s : PI} {env : DEnv} (hp : ∀ k : KY, dPk 1 (env.set 5 (some (kD k, .fz))) = some (.dic (dks s) (dvs D.int s))) (h5 : ∀ k : KY, dVar 5 (env.set 5 (some (kD k, .fz))) = some (kD k)) : ∀ {ks : List KY}, (∀ k ∈ ks, look k s ≠ none) →
    compL (.nm 5) (dB (dBin (gEqA true) (dDGet (dPk 1) (dVar 5)) (dC (.int 0)))) (dLst (dCons (dVar 5) (dCons (dDGet (dPk 1) (dVar 5)) dNil))) (ks.map kD) env = some ((canKI s ks).map rowI1)
  | [], _ => rfl
  | k :: ks, h => by
    have ih := rows_comp hp h5 (ks := ks) fun j hj => h j (List.mem_cons_of_mem _ hj)
    obtain ⟨r, hr⟩ := Option.ne_none_iff_exists'.mp (h k List.mem_cons_self)
    have hget : dDGet (dPk 1) (dVar 5) (env.set 5 (some (kD k, .fz))) = some (.int r) := by
      unfold dDGet
      rw [hp, h5]
      dsimp only
      rw [tkey_kD]
      dsimp only
      rw [getK_eq, hr]
      rfl
    rw [List.map_cons, compL]
    simp only [tgtE]
    rw [canKI, hr]
    dsimp only
    by_cases q : r = 0
    · have hc : dB (dBin (gEqA true) (dDGet (dPk 1) (dVar 5)) (dC (.int 0))) (env.set 5 (some (kD k, .fz))) = some false := E.bb (E.bin hget (y := .int 0) rfl (gEq_int_t q))
      rw [hc, if_pos q]
      exact ih
    · have hc : dB (dBin (gEqA true) (dDGet (dPk 1) (dVar 5)) (dC (.int 0))) (env.set 5 (some (kD k, .fz))) = some true := E.bb (E.bin hget (y := .int 0) rfl (gEq_int_f q))
      have hf : dLst (dCons (dVar 5) (dCons (dDGet (dPk 1) (dVar 5)) dNil)) (env.set 5 (some (kD k, .fz))) = some (rowI1 (k, r)) := E.lst (xs := [kD k, .int r]) (E.cons (h5 k) (E.cons hget rfl)) (by show (2 : Nat) ≤ 100000; decide)
      rw [hc, if_neg q]
      dsimp only
      rw [hf, ih]
      rfl
theorem rows_eq {c : Nat} {ts : List TM} (h : ∀ t ∈ ts, (∀ j ∈ t.1, j ≤ 1000) ∧ t.1.length ≤ 500) (hl : ts.length ≤ 1000) : m__law_rows [tmL c ts] = some (.lst ((canI (accI [] (keyI c ts))).map rowI1)) := by
  have hs : smallL = 100000 := rfl
  obtain ⟨⟨x2, x3, x4, x5⟩, g, _⟩ := E.fold (enc := tmD c) (tt := .tp [2, 3, 4]) (body := bRw) (mk := fun s (x : Option (D × Fl) × Option (D × Fl) × Option (D × Fl) × Option (D × Fl)) => rwE c ts s x.1 x.2.1 x.2.2.1 x.2.2.2) (f := fun s t => accI1 s (ku c t.1 t.2.1, t.2.2)) (I := fun r s => s.length + r ≤ 1000) (A := ts) (s := []) (x := (none, none, none, none)) (fun r s x t ht hI => by
    obtain ⟨h1, h2⟩ := h t ht
    refine ⟨_, (some (.lst (cyL c t.1), .fz), some (.str (xs c t.2.1), .fz), some (.int t.2.2, .fz), some (kD (ku c t.1 t.2.1), .fz)), rfl, rw_step (x5 := x.2.2.2) h1 h2 (by omega), ?_⟩
    have : (accI1 s (ku c t.1 t.2.1, t.2.2)).length ≤ s.length + 1 := put_len _ _ s
    omega) (by simpa using hl)
  have ef : ts.foldl (fun s t => accI1 s (ku c t.1 t.2.1, t.2.2)) [] = accI [] (keyI c ts) := by
    unfold accI keyI
    rw [List.foldl_map]
  rw [ef] at g
  have hlen := accI_len (keyI c ts) []
  have hkl : (keyI c ts).length = ts.length := by unfold keyI; rw [List.length_map]
  obtain ⟨s, hsd⟩ : ∃ s, s = accI [] (keyI c ts) := ⟨_, rfl⟩
  rw [← hsd] at g hlen ⊢
  simp only [List.length_nil] at hlen
  have hsort : dSorted (dPk 1) (rwE c ts s x2 x3 x4 x5) = some (.lst (((s.map (·.1)).mergeSort keyLe).map kD)) := by
    have e1 : dks s = (s.map (·.1)).map kD := by unfold dks; rw [List.map_map]; rfl
    have hp : dPk 1 (rwE c ts s x2 x3 x4 x5) = some (.dic ((s.map (·.1)).map kD) (dvs D.int s)) := by rw [← e1]; rfl
    unfold dSorted
    rw [hp]
    dsimp only [srcD]
    rw [if_pos ⟨by rw [List.length_map, List.length_map]; omega, sortOk_kD _⟩, sortD_kD]
  have p := List.mergeSort_perm (s.map (·.1)) keyLe
  have hcomp := rows_comp (s := s) (env := wipeE (rwE c ts s x2 x3 x4 x5) [5]) (fun k => rfl) (fun k => rfl) (ks := (s.map (·.1)).mergeSort keyLe) fun k hk z => look_none_iff.mp z (p.mem_iff.mp hk)
  refine E.runD_rt (E.seq (e1 := rwE c ts [] none none none none) (E.setO rfl rfl) (E.seq (E.for_ (l := ts.map (tmD c)) (E.it_l rfl) g) (E.ret (E.lc (l := ((s.map (·.1)).mergeSort keyLe).map kD) (E.it_l hsort) (by rw [List.length_map, List.length_mergeSort, List.length_map]; omega) hcomp))))
/-! the same polynomial -/
theorem mk_num {d : Nat} (h : 0 < d) (v : Int) : (mkRat v d).num * (d : Int) = v * ((mkRat v d).den : Int) := by
  have h1 := num_eq (mkRat v d)
  have h2 := (in_mk h v).1.eq
  rw [(in_mk h v).2] at h2
  have key : (((mkRat v d).num * (d : Int) : Int) : Rat) = ((v * ((mkRat v d).den : Int) : Int) : Rat) := by
    rw [Rat.intCast_mul, Rat.intCast_mul, h1, ← h2]
    have e3 : (((d : Nat) : Int) : Rat) = (d : Rat) := rfl
    have e4 : ((((mkRat v d).den : Nat) : Int) : Rat) = ((mkRat v d).den : Rat) := rfl
    rw [e3, e4]
    grind
  exact Rat.intCast_inj.mp key
theorem same_poly_eq {c den : Nat} (hc : c < 0x110000) {mk : Bool} {ts : List TM} (ok : PolyOk mk den ts) : m__law_same_poly [pD (kindOf mk) (polyP c den ts), .str (kindOf mk), .lst ((canI (accI [] (keyI c ts))).map rowI1), .int den] = some (.bl true) := by
  have hs : smallL = 100000 := rfl
  have inp := poly_inp (c := c) ok
  have hlen := inp.len
  have d0 := ok.d0
  have d1 := ok.d1
  rw [poly_rows d0] at inp hlen ⊢
  obtain ⟨R, hR⟩ : ∃ R, R = canI (accI [] (keyI c ts)) := ⟨_, rfl⟩
  rw [← hR] at inp hlen ⊢
  have hRl : R.length = (ratM den R).length := by unfold ratM; rw [List.length_map]
  have hkeys : (ratM den R).map (·.1) = R.map (·.1) := ratM_keys den R
  have hok := inp.fit.ok d0 (Nat.lt_of_le_of_lt d1 (by decide)) (Nat.lt_of_le_of_lt ok.nb (Nat.pow_lt_pow_right (by decide) (by decide)))
  have hcomp0 : ∀ env : DEnv, dVar 2 env = some (.lst (R.map rowI1)) → 4 < env.length → dLc [4] (.nm 4) (dIt (dVar 2)) dYes (dBin gIx (dVar 4) (dC (.int 0))) env = some (.lst ((R.map (·.1)).map kD)) := fun env h2 h4 => by
    refine E.lc (l := R.map rowI1) (E.it_l h2) (by rw [List.length_map]; omega) (E.comp (by simp) fun a x y hx hy => ?_)
    obtain ⟨e, h1, rfl⟩ := map_at hx
    rw [List.map_map, List.getElem?_map, h1] at hy
    cases hy
    refine ⟨_, rfl, rfl, E.bin (x := rowI1 e) (y := .int 0) (E.var ?_) rfl rfl⟩
    rw [List.getElem?_set_self]
    unfold wipeE wipeE
    rw [List.length_set]
    exact h4
  have hlist : gEqA true (.lst (dks (ratM den R))) (.lst ((R.map (·.1)).map kD)) = some (.bl false) := by
    rw [dks_map, hkeys]
    refine gEq_keys hc fun k hk2 => ?_
    rw [← hkeys] at hk2
    obtain ⟨e, he, rfl⟩ := List.mem_map.mp hk2
    obtain ⟨ns, w, e1, _⟩ := inp.key e he
    exact ⟨ns, w, e1⟩
  have hc2 : dLc [4] (.nm 4) (dIt (dVar 2)) (dNot (dB (dCall 3 m__law_same_number [] (dCons (dSubO 1 m_Poly___getitem__ (dVar 0) (dBin gIx (dVar 4) (dC (.int 0)))) (dCons (dBin gIx (dVar 4) (dC (.int 1))) (dCons (dVar 3) dNil)))))) (dVar 4) [some (pD (kindOf mk) (ratM den R), .fz), some (.str (kindOf mk), .fz), some (.lst (R.map rowI1), .fz), some (.int den, .fz), none] = some (.lst []) := by
    refine E.lc (l := R.map rowI1) (E.it_l rfl) (by rw [List.length_map]; omega) (comp_none fun x hx => ?_)
    obtain ⟨e, he, rfl⟩ := List.mem_map.mp hx
    have hm : (e.1, mkRat e.2 den) ∈ ratM den R := List.mem_map.mpr ⟨e, he, rfl⟩
    have hq := mem_look inp.can.nd hm
    have g0 : dSubO 1 m_Poly___getitem__ (dVar 0) (dBin gIx (dVar 4) (dC (.int 0))) [some (pD (kindOf mk) (ratM den R), .fz), some (.str (kindOf mk), .fz), some (.lst (R.map rowI1), .fz), some (.int den, .fz), some (rowI1 e, .fz)] = some (rD (mkRat e.2 den)) := f_get (k := e.1) rfl (E.bin (x := rowI1 e) (y := .int 0) rfl rfl rfl) hq
    have hz := (in_mk d0 e.2).2
    have hv : e.2.natAbs < 2 ^ 4000 := by
      have h1 := nr_mem (m := den) hm
      have h2 := inp.fit.n
      rw [hz] at h1
      exact Nat.lt_of_le_of_lt (Nat.le_trans h1 (Nat.le_trans h2 ok.nb)) (Nat.pow_lt_pow_right (by decide) (by decide))
    have w1 : CMulW (mkRat e.2 den).num (den : Int) := ok_W (hok _ hm).n (by rw [Int.natAbs_natCast]; exact Nat.lt_of_le_of_lt d1 (by decide))
    have w2 : CMulW e.2 ((mkRat e.2 den).den : Int) := ok_W hv (den_W (hok _ hm))
    exact ⟨_, rfl, E.not (b := true) (E.bb (E.call (xs := [rD (mkRat e.2 den), .int e.2, .int den]) (E.cons g0 (E.cons (E.bin (x := rowI1 e) (y := .int 1) rfl rfl rfl) (E.cons rfl rfl))) rfl (same_eq (mk_num d0 e.2) w1 w2)))⟩
  refine E.runD_rt (E.seq (E.if_f (E.or_f (E.not (b := true) (E.bb (E.isO rfl))) (E.or_f (E.bb (E.bin (f_kind rfl) rfl (gEq_str_t rfl))) (E.bb (E.bin (E.map (f_terms rfl) rfl) (hcomp0 _ rfl (by decide : 4 < 5)) hlist)))) E.next) (E.ret (E.bin (x := .int 0) (y := .int 0) (E.map hc2 rfl) rfl (gEq_int_t rfl))))
end Pd73

/-! k73, the law's defs: refusals. -/
namespace Pd73
open PySem PySem.Spec PyProof.Rows L2 Pd
local macro_rules | `(tactic| trivial) => `(tactic| first
  | assumption
  | (with_reducible apply E.var) <;> rfl
  | with_reducible exact E.next
  | (with_reducible apply E.bin) <;> trivial
  | (with_reducible apply E.map) <;> trivial
  | (with_reducible apply E.cons) <;> trivial
  | (with_reducible apply E.neg) <;> trivial
  | (with_reducible apply E.bb) <;> trivial
  | (with_reducible apply E.not) <;> trivial
  | (with_reducible apply E.tup) <;> trivial
  | (with_reducible apply E.lst) <;> trivial
  | (with_reducible apply E.call) <;> trivial
  | (with_reducible apply E.make) <;> trivial
  | (with_reducible apply E.ixO) <;> trivial
  | (with_reducible apply E.set) <;> trivial
  | (with_reducible apply E.setO) <;> trivial
  | (with_reducible apply E.ret) <;> trivial
  | (with_reducible apply E.app) <;> trivial
  | (with_reducible apply E.rg1) <;> trivial
  | (with_reducible apply E.runD_rt) <;> trivial
  | (with_reducible apply gMod) <;> trivial
  | (with_reducible apply gDiv) <;> trivial
  | (with_reducible apply gMul_int) <;> trivial
  | rfl
  | decide
  | omega)
def blL (bs : List Bool) : D := .lst (bs.map D.bl)
theorem refusal_of {i : Int} {p : D} {k : Nat} {bs : List Bool} (h : m_reduce_one [.int i, p] = some (.ex k)) (hb : hand__law_refusal k = some bs) (hl : bs.length ≤ 10) : m__law_refusal [.int i, p] = some (blL bs) := by
  have hs : smallL = 100000 := rfl
  refine E.runD_rt (E.seq_rt ?_)
  have hf : dCons (dVar 0) (dCons (dVar 1) dNil) (env0 3 [.int i, p]) = some [.int i, p] := rfl
  unfold dTry
  rw [hf]
  dsimp only
  rw [if_pos ⟨rfl, by show 2 < 3; decide⟩, h]
  dsimp only
  rw [hb]
  dsimp only
  rw [if_pos (by omega)]
  rfl
theorem dpds_bools : ∀ l : List Bool, dpds (l.map D.bl) = some (l.map PyData.bool)
  | [] => rfl
  | x :: l => by rw [List.map_cons, dpds, dpds_bools l]; rfl
theorem lay_bools : ∀ l : List Bool, PyData.canLayAll0 (l.map PyData.bool) = true
  | [] => rfl
  | x :: l => by rw [List.map_cons, PyData.canLayAll0, lay_bools l]; rfl
theorem depth_bools : ∀ l : List Bool, PyData.depthAll (l.map PyData.bool) = 0
  | [] => by simp [PyData.depthAll]
  | x :: l => by simp [PyData.depthAll, PyData.depth, depth_bools l]
theorem gEq_bools {ne : Bool} (l : List Bool) : gEqA ne (blL l) (blL l) = some (.bl (!ne)) :=
  gEq_refl (p := .list (l.map .bool)) (by unfold blL; rw [dpd, dpds_bools]; rfl) (by rw [PyData.canLay0]; exact lay_bools l) (by rw [PyData.depth, depth_bools]; decide) rfl
/-! the letters of a text -/
theorem addS_mem {l : List Str} {k x : Str} : x ∈ addS l k ↔ x ∈ l ∨ x = k := by
  unfold addS
  split
  · rename_i h
    exact ⟨.inl, fun z => z.elim id fun e => by rw [e]; exact h⟩
  · rw [List.mem_cons]
    exact ⟨fun z => z.symm, fun z => z.symm⟩
theorem addS_nd {l : List Str} {k : Str} (h : l.Nodup) : (addS l k).Nodup := by
  unfold addS
  split
  · exact h
  · rename_i q
    exact List.nodup_cons.mpr ⟨q, h⟩
theorem upL_gen : ∀ (cs : List Nat) (l : List Str), l.Nodup → (cs.foldl (fun l c => addS l (PySem.Froz.sing c)) l).Nodup ∧ ∀ x, x ∈ cs.foldl (fun l c => addS l (PySem.Froz.sing c)) l ↔ x ∈ l ∨ ∃ c ∈ cs, x = tx [c]
  | [], l, h => ⟨h, fun x => by simp⟩
  | c :: cs, l, h => by
    obtain ⟨h1, h2⟩ := upL_gen cs (addS l (PySem.Froz.sing c)) (addS_nd h)
    refine ⟨h1, fun x => ?_⟩
    rw [List.foldl_cons, h2, addS_mem]
    have es : PySem.Froz.sing c = tx [c] := rfl
    rw [es]
    constructor
    · rintro ((z | z) | ⟨d, hd, z⟩)
      · exact .inl z
      · exact .inr ⟨c, List.mem_cons_self, z⟩
      · exact .inr ⟨d, List.mem_cons_of_mem _ hd, z⟩
    · rintro (z | ⟨d, hd, z⟩)
      · exact .inl (.inl z)
      · rcases List.mem_cons.mp hd with q | q
        · rw [q] at z; exact .inl (.inr z)
        · exact .inr ⟨d, q, z⟩
theorem upL_two {c d : Nat} (hcd : c ≠ d) {cs : List Nat} (h : ∀ x ∈ cs, x = c ∨ x = d) (hc : c ∈ cs) (hd : d ∈ cs) : (upL cs).length = 2 ∧ ∀ s ∈ upL cs, s.cps.toList.length = 1 := by
  obtain ⟨n1, m1⟩ := upL_gen cs [] List.nodup_nil
  have hne : tx [c] ≠ tx [d] := fun z => hcd (by have := tx_inj z; simpa using this)
  have sub1 : upL cs ⊆ [tx [c], tx [d]] := fun x hx => by
    rcases (m1 x).mp hx with z | ⟨y, hy, z⟩
    · cases z
    · rcases h y hy with q | q
      · rw [z, q]; exact List.mem_cons_self
      · rw [z, q]; exact List.mem_cons_of_mem _ List.mem_cons_self
  have sub2 : [tx [c], tx [d]] ⊆ upL cs := fun x hx => by
    rcases List.mem_cons.mp hx with z | z
    · exact (m1 x).mpr (.inr ⟨c, hc, z⟩)
    · have : x = tx [d] := by simpa using z
      exact (m1 x).mpr (.inr ⟨d, hd, this⟩)
  have l1 := n1.length_le_of_subset sub1
  have n2 : [tx [c], tx [d]].Nodup := by
    rw [List.nodup_cons]
    exact ⟨fun z => hne (by simpa using z), by simp⟩
  have l2 := n2.length_le_of_subset sub2
  refine ⟨Nat.le_antisymm l1 l2, fun s hs => ?_⟩
  rcases (m1 s).mp hs with z | ⟨y, hy, z⟩
  · cases z
  · rw [z]; rfl
theorem flat_one : ∀ {l : List Str}, (∀ s ∈ l, s.cps.toList.length = 1) → (l.flatMap fun s => s.cps.toList).length = l.length
  | [], _ => rfl
  | s :: l, h => by
    rw [List.flatMap_cons, List.length_append, flat_one fun t ht => h t (List.mem_cons_of_mem _ ht), h s List.mem_cons_self, List.length_cons, Nat.add_comm]
/-- two letters are refused -/
theorem two_letters {c d : Nat} (hcd : c ≠ d) {kind : Str} {l : PL} (hk : KOk l) (hl : l.length ≤ smallL) (ht : (ltxt l).length ≤ smallL) (h : ∀ x ∈ ltxt l, x = c ∨ x = d) (hc : c ∈ ltxt l) (hd : d ∈ ltxt l) : m_only_letter [pD kind l] = some (.ex 3) := by
  obtain ⟨h1, h2⟩ := upL_two hcd h hc hd
  have p := List.mergeSort_perm (upL (ltxt l)) strLe
  have e1 : (((upL (ltxt l)).mergeSort strLe).flatMap fun s => s.cps.toList).length = 2 := by
    rw [flat_one fun s hs => h2 s (p.mem_iff.mp hs), List.length_mergeSort, h1]
  have hu := used_letters_eq (kind := kind) hk hl ht (by omega) (by rw [e1]; decide)
  have e2 : (Pd73.letters l).length = 2 := by
    unfold Pd73.letters
    rw [tx_len, e1]
  exact only_letter_bad hu (by rw [e2]; decide) (by rw [e2]; decide)
end Pd73

/-! k73, the law's defs: a polynomial of two letters. -/
namespace Pd73
open PySem PySem.Spec PyProof.Rows L2 Pd
local macro_rules | `(tactic| trivial) => `(tactic| first
  | assumption
  | (with_reducible apply E.var) <;> rfl
  | with_reducible exact E.next
  | (with_reducible apply E.bin) <;> trivial
  | (with_reducible apply E.map) <;> trivial
  | (with_reducible apply E.cons) <;> trivial
  | (with_reducible apply E.neg) <;> trivial
  | (with_reducible apply E.bb) <;> trivial
  | (with_reducible apply E.not) <;> trivial
  | (with_reducible apply E.tup) <;> trivial
  | (with_reducible apply E.lst) <;> trivial
  | (with_reducible apply E.call) <;> trivial
  | (with_reducible apply E.make) <;> trivial
  | (with_reducible apply E.ixO) <;> trivial
  | (with_reducible apply E.set) <;> trivial
  | (with_reducible apply E.setO) <;> trivial
  | (with_reducible apply E.ret) <;> trivial
  | (with_reducible apply E.app) <;> trivial
  | (with_reducible apply E.rg1) <;> trivial
  | (with_reducible apply E.runD_rt) <;> trivial
  | (with_reducible apply gMod) <;> trivial
  | (with_reducible apply gDiv) <;> trivial
  | (with_reducible apply gMul_int) <;> trivial
  | rfl
  | decide
  | omega)
def chs (s : Str) : List Nat := s.cps.toList
theorem minOf_mem {α : Type} [LT α] [DecidableRel (α := α) (· < ·)] (x : Str) (r : List Str) : PySem.W.minOf x r ∈ x :: r := by
  unfold PySem.W.minOf
  induction r generalizing x with
  | nil => exact List.mem_cons_self
  | cons y r ih =>
    rw [List.foldl_cons]
    split
    · exact List.mem_cons_of_mem _ (ih y)
    · rcases List.mem_cons.mp (ih x) with z | z
      · rw [z]; exact List.mem_cons_self
      · exact List.mem_cons_of_mem _ (List.mem_cons_of_mem _ z)
theorem rot_perm (s : Str) (k : Nat) : (chs (rot s k)).Perm (chs s) := by
  have e : chs (rot s k) = (chs s).drop k ++ (chs s).take k := by simp [chs, rot, tx]
  rw [e]
  have := List.perm_append_comm (l₁ := (chs s).drop k) (l₂ := (chs s).take k)
  rw [List.take_append_drop] at this
  exact this
theorem lrot_perm (s : Str) : (chs (lrot s)).Perm (chs s) := by
  unfold lrot
  cases q : (List.range s.cps.size).map (rot s) with
  | nil =>
    have hl := congrArg List.length q
    rw [List.length_map, List.length_range, List.length_nil] at hl
    have : chs s = [] := by unfold chs; exact List.length_eq_zero_iff.mp (by simpa using hl)
    rw [this]
    exact List.Perm.refl _
  | cons x r =>
    dsimp only
    have hm := minOf_mem (α := Nat) x r
    rw [← q] at hm
    obtain ⟨k, _, hk⟩ := List.mem_map.mp hm
    rw [← hk]
    exact rot_perm s k
theorem flat_tk (cs : List Str) (w : Str) : (flat (tk cs w)).Perm (cs.flatMap chs ++ chs w) := by
  show (((cs.map lrot).mergeSort strLe).flatMap chs ++ chs w).Perm _
  refine List.Perm.append_right _ ?_
  refine ((List.mergeSort_perm (cs.map lrot) strLe).flatMap_right chs).trans ?_
  induction cs with
  | nil => exact List.Perm.refl _
  | cons s cs ih => exact (lrot_perm s).append ih
section
variable {c d n K b : Nat} {mk : Bool} {l : PL} {k : KY} {q : Rat}
/-- a key of two letters -/
structure Two (c d : Nat) (k : KY) : Prop where
  ne : c ≠ d
  a : ∀ x ∈ flat k, x = c ∨ x = d
  c : c ∈ flat k
  d : d ∈ flat k
  l : (flat k).length ≤ 4
  n : k.1.length ≤ 4
theorem Two.new (t : Two c d k) (h : InP c mk K b l) : k ∉ l.map (·.1) := fun hk => by
  obtain ⟨e, he, ek⟩ := List.mem_map.mp hk
  obtain ⟨ns, w, e1, _⟩ := h.key e he
  have hd := t.d
  rw [← ek, e1, flat_uk] at hd
  exact t.ne (List.eq_of_mem_replicate hd).symm
theorem look_put (k : KY) (v : Rat) : ∀ l : PL, look k (put k v l) = some v
  | [] => by simp [put, look]
  | e :: l => by
    unfold put
    split
    · rename_i h
      unfold look
      rw [if_pos h]
    · rename_i h
      unfold look
      rw [if_neg h]
      exact look_put k v l
theorem both_mem (t : Two c d k) (h : InP c mk K b l) (hq : q ≠ 0) : (k, q) ∈ sumL l [(k, q)] := by
  have hn := look_none_iff.mpr (t.new h)
  have e : acc l [(k, q)] = put k q l := by
    show acc1 l (k, q) = _
    unfold acc1
    dsimp only
    rw [hn]
  have p := List.mergeSort_perm ((put k q l).map (·.1)) keyLe
  unfold sumL canon
  rw [e]
  refine canK_mem.mpr ⟨p.mem_iff.mpr ?_, look_put k q l, hq⟩
  exact List.mem_map.mpr ⟨(k, q), look_mem (look_put k q l), rfl⟩
theorem both_key {e : KY × Rat} (he : e ∈ sumL l [(k, q)]) : (∃ x ∈ l, x.1 = e.1) ∨ e.1 = k := by
  rcases acc_keys e.1 (canon_keys e.1 (List.mem_map.mpr ⟨e, he, rfl⟩)) with z | z
  · obtain ⟨x, hx, ex⟩ := List.mem_map.mp z
    exact .inl ⟨x, hx, ex⟩
  · exact .inr (by simpa using z)
theorem both_only (t : Two c d k) (h : InP c mk K b l) (hl : l.length ≤ 4000) (hq : q ≠ 0) (kind : Str) : m_only_letter [pD kind (sumL l [(k, q)])] = some (.ex 3) := by
  have hs : smallL = 100000 := rfl
  have hlen : (sumL l [(k, q)]).length ≤ 4001 := by
    have h1 := canon_len (acc l [(k, q)])
    have h2 := acc_len [(k, q)] l
    simp only [List.length_cons, List.length_nil] at h2
    unfold sumL
    omega
  have cp := content_perm k
  have hcont : ∀ e ∈ sumL l [(k, q)], (∀ x ∈ (content e.1).cps.toList, x = c ∨ x = d) ∧ (content e.1).cps.toList.length ≤ 20 := fun e he => by
    rcases both_key he with ⟨x, hx, ex⟩ | ek
    · obtain ⟨h1, h2⟩ := h.cont hx
      rw [← ex]
      exact ⟨fun y hy => .inl (h1 y hy), h2⟩
    · rw [ek]
      exact ⟨fun y hy => t.a y (cp.mem_iff.mp hy), by rw [cp.length_eq]; have := t.l; omega⟩
  have hm := both_mem t h hq
  have hl2 := flat_len (f := fun e : KY × Rat => (content e.1).cps.toList) (k := 20) (l := sumL l [(k, q)]) fun e he => (hcont e he).2
  refine two_letters t.ne (fun e he => ?_) (by omega) (by unfold ltxt; omega) (fun x hx => ?_) (List.mem_flatMap.mpr ⟨(k, q), hm, cp.mem_iff.mpr t.c⟩) (List.mem_flatMap.mpr ⟨(k, q), hm, cp.mem_iff.mpr t.d⟩)
  · rcases both_key he with ⟨x, hx, ex⟩ | ek
    · rw [← ex]; exact h.kok x hx
    · rw [ek]
      have := t.l
      have := t.n
      exact ⟨by omega, by omega⟩
  · obtain ⟨e, he, h2⟩ := List.mem_flatMap.mp hx
    exact (hcont e he).1 x h2
/-- the sum with a term of two letters -/
theorem both_add (t : Two c d k) (h : InP c mk K b l) (hl : l.length ≤ 4000) {i : Int} (hi : i.natAbs ≤ 5) (hK : K ≤ 100) (hb : b ≤ 2 ^ 170) (kind : Str) : m_Poly___add__ [pD kind l, pD kind [(k, mkRat i 7)]] = some (pD kind (sumL l [(k, mkRat i 7)])) := by
  have hs : smallL = 100000 := rfl
  obtain ⟨m1, m2⟩ := in_mk (den := 7) (by decide) i
  have f1 := fit_up 7 h.fit
  have f2 : Fit (7 * K) (5 * K) [(k, mkRat i 7)] := fit_up K (fit_one m1 (by rw [m2]; exact hi))
  rw [Nat.mul_comm 7 K] at f2
  have h7 : 0 < K * 7 := Nat.mul_pos h.K0 (by decide)
  exact Poly_add h.can.nd (by simp) h7 (Nat.lt_of_le_of_lt (Nat.mul_le_mul_right _ hK) (by decide)) f1 f2 (by
    have h1 : b * 7 ≤ 2 ^ 170 * 7 := Nat.mul_le_mul_right _ hb
    exact Nat.lt_of_le_of_lt (Nat.add_le_add h1 (Nat.mul_le_mul_left 5 hK)) (by decide)) (by rw [List.length_singleton]; omega)
end
/-- the two sorts of pairs -/
theorem two_a {c d : Nat} (h : c ≠ d) : Two c d (tk [xs c 1, xs d 1] (xs c 0)) := by
  have p := flat_tk [xs c 1, xs d 1] (xs c 0)
  have e : [xs c 1, xs d 1].flatMap chs ++ chs (xs c 0) = [c, d] := rfl
  rw [e] at p
  refine ⟨h, fun x hx => ?_, p.mem_iff.mpr (by simp), p.mem_iff.mpr (by simp), by rw [p.length_eq]; simp, ?_⟩
  · have := p.mem_iff.mp hx
    simpa using this
  · show (([xs c 1, xs d 1].map lrot).mergeSort strLe).length ≤ 4
    rw [List.length_mergeSort]
    simp
theorem two_b {c d : Nat} (h : c ≠ d) : Two c d (tk [xs c 3 ++ tx [d]] (xs c 0)) := by
  have p := flat_tk [xs c 3 ++ tx [d]] (xs c 0)
  have e : [xs c 3 ++ tx [d]].flatMap chs ++ chs (xs c 0) = [c, c, c, d] := by
    unfold xs
    rw [tx_app]
    rfl
  rw [e] at p
  refine ⟨h, fun x hx => ?_, p.mem_iff.mpr (by simp), p.mem_iff.mpr (by simp), by rw [p.length_eq]; simp, ?_⟩
  · have := p.mem_iff.mp hx
    simpa using this
  · show (([xs c 3 ++ tx [d]].map lrot).mergeSort strLe).length ≤ 4
    rw [List.length_mergeSort]
    simp
end Pd73

/-! k73, the law's defs: what is refused. -/
namespace Pd73
open PySem PySem.Spec PyProof.Rows L2 Pd
local macro_rules | `(tactic| trivial) => `(tactic| first
  | assumption
  | (with_reducible apply E.var) <;> rfl
  | with_reducible exact E.next
  | (with_reducible apply E.bin) <;> trivial
  | (with_reducible apply E.map) <;> trivial
  | (with_reducible apply E.cons) <;> trivial
  | (with_reducible apply E.neg) <;> trivial
  | (with_reducible apply E.bb) <;> trivial
  | (with_reducible apply E.not) <;> trivial
  | (with_reducible apply E.tup) <;> trivial
  | (with_reducible apply E.lst) <;> trivial
  | (with_reducible apply E.call) <;> trivial
  | (with_reducible apply E.make) <;> trivial
  | (with_reducible apply E.ixO) <;> trivial
  | (with_reducible apply E.set) <;> trivial
  | (with_reducible apply E.setO) <;> trivial
  | (with_reducible apply E.ret) <;> trivial
  | (with_reducible apply E.app) <;> trivial
  | (with_reducible apply E.rg1) <;> trivial
  | (with_reducible apply E.runD_rt) <;> trivial
  | (with_reducible apply gMod) <;> trivial
  | (with_reducible apply gDiv) <;> trivial
  | (with_reducible apply gMul_int) <;> trivial
  | rfl
  | decide
  | omega)
def rfE (ns : List Int) (p : D) (kl mn : Str) (n : Nat) (a5 a6 a7 a8 : Option (D × Fl)) : DEnv := [some (scr ns, .fz), some (p, .fz), some (.str kl, .fz), some (.str mn, .fz), some (.int n, .fz), a5, a6, a7, a8]
theorem pair_poly {kind : Str} {cs : List Str} {c : Nat} {i : Int} (hs : ∀ s ∈ cs, s.length ≤ 10) (hl : cs.length ≤ 10) (h0 : i ≠ 0) (hi : i.natAbs ≤ 5) : m_Poly___init__ [.str kind, .lst [.tup [.lst (cs.map .str), .str (xs c 0), rD (mkRat i 7)]]] = some (pD kind [(tk cs (xs c 0), mkRat i 7)]) := by
  have hsm : smallL = 100000 := rfl
  obtain ⟨m1, m2⟩ := in_mk (den := 7) (by decide) i
  have hq : mkRat i 7 ≠ 0 := fun z => h0 ((mkRat_zero (by decide) i).mp z)
  have h := Poly_init (kind := kind) (ts := [((false, cs), xs c 0, mkRat i 7)]) (m := 7) (c := 5) (by decide) (by decide) (fun t ht => by
    have : t = ((false, cs), xs c 0, mkRat i 7) := by simpa using ht
    subst this
    exact ⟨fun _ => rfl, fun s hm => by have := hs s hm; omega, by show cs.length ≤ smallL; omega⟩) (fit_one m1 (by rw [m2]; exact hi)) (by decide) (by show (1 : Nat) ≤ 100000; decide)
  have e : canon (acc [] ([((false, cs), xs c 0, mkRat i 7)].map itK)) = [(tk cs (xs c 0), mkRat i 7)] := canon_one hq
  rw [e] at h
  exact h
theorem menu_ix0 (c d : Nat) (r : List Nat) (hr : r.length = 4) : gIx (.str (tx (c :: d :: r))) (.int 0) = some (.str (xs c 1)) := by
  unfold gIx
  dsimp only
  have hs : smallL = 100000 := rfl
  rw [tx_len, if_pos (by simp; omega)]
  have : atI (tx (c :: d :: r)).cps.toList ((0 : Nat) : Int) = some c := atI_nat rfl
  show (atI (tx (c :: d :: r)).cps.toList ((0 : Nat) : Int)).map _ = _
  rw [this]
  rfl
theorem menu_ix1 (c d : Nat) (r : List Nat) (hr : r.length = 4) : gIx (.str (tx (c :: d :: r))) (.int 1) = some (.str (xs d 1)) := by
  unfold gIx
  dsimp only
  have hs : smallL = 100000 := rfl
  rw [tx_len, if_pos (by simp; omega)]
  have : atI (tx (c :: d :: r)).cps.toList ((1 : Nat) : Int) = some d := atI_nat rfl
  show (atI (tx (c :: d :: r)).cps.toList ((1 : Nat) : Int)).map _ = _
  rw [this]
  rfl
theorem wrong_ix (N : Nat) : ∃ i, gIx (.lst [.int 0, .int 4, .int (-3), .int (10 ^ 20)]) (.int ((N : Int) % 4)) = some (.int i) ∧ ¬ i ∈ [(1 : Int), 2, 3] := by
  obtain ⟨a, ha, hl⟩ : ∃ a : Nat, (N : Int) % 4 = a ∧ a < 4 := ⟨N % 4, by omega, by omega⟩
  rw [ha]
  have : a = 0 ∨ a = 1 ∨ a = 2 ∨ a = 3 := by omega
  rcases this with rfl | rfl | rfl | rfl
  · exact ⟨0, rfl, by decide⟩
  · exact ⟨4, rfl, by decide⟩
  · exact ⟨-3, rfl, by decide⟩
  · exact ⟨10 ^ 20, rfl, by decide⟩
theorem refuses_eq {ns : List Int} {c d n den : Nat} {r : List Nat} {mk : Bool} {ts : List TM} (h : ns.length ≤ 63) (hcd : c ≠ d) (hr : r.length = 4) (h1 : 1 ≤ n) (hn : n ≤ 3) (ok : PolyOk mk den ts) :
    m__law_refuses [scr ns, pD (kindOf mk) (polyP c den ts), .str (kindOf mk), .str (tx (c :: d :: r)), .int n] = some (.bl true) := by
  have hs : smallL = 100000 := rfl
  obtain ⟨N, hN⟩ := number_eq h (k := 15) (by decide)
  obtain ⟨wr, hw1, hw2⟩ := wrong_ix N
  obtain ⟨i, hi, hi0, hi5⟩ : ∃ i : Int, 1 + (N : Int) / 12 % 5 = i ∧ i ≠ 0 ∧ i.natAbs ≤ 5 := ⟨_, rfl, by omega, by omega⟩
  have inp := poly_inp (c := c) ok
  have hlen : (polyP c den ts).length ≤ 4000 := by
    have h1 := canon_len (acc [] (rawP c den ts))
    have h2 := acc_len (rawP c den ts) []
    have h3 : (rawP c den ts).length = ts.length := by unfold rawP; rw [List.length_map]
    have := ok.l
    unfold polyP
    simp only [List.length_nil] at h2
    omega
  obtain ⟨P, hP⟩ : ∃ P, P = polyP c den ts := ⟨_, rfl⟩
  rw [← hP] at inp hlen ⊢
  obtain ⟨cs, hcs, hcl, two, h7⟩ : ∃ cs : List Str, (∀ s ∈ cs, s.length ≤ 10) ∧ cs.length ≤ 10 ∧ Two c d (tk cs (xs c 0)) ∧ ∀ a5 a6, dSeq (dSet 7 (dLst (dCons (dBin gIx (dVar 3) (dC (.int 0))) (dCons (dBin gIx (dVar 3) (dC (.int 1))) dNil)))) (dIf (dB (dBin (gEqA false) (dBin (gIc (fun _ j => 0 < j) fun i j => i % j) (dMap gInt (dBin (gIc CDivW fun i j => i / j) (dVar 5) (dC (.int 4)))) (dC (.int 3))) (dC (.int 0)))) (dSet 7 (dLst (dCons (dBin gAdd (dBin gMul (dBin gIx (dVar 3) (dC (.int 0))) (dC (.int 3))) (dBin gIx (dVar 3) (dC (.int 1)))) dNil))) dNext) (rfE ns (pD (kindOf mk) P) (kindOf mk) (tx (c :: d :: r)) n (some (.int N, .fz)) a6 none none) = some (.nx (rfE ns (pD (kindOf mk) P) (kindOf mk) (tx (c :: d :: r)) n (some (.int N, .fz)) a6 (some (.lst (cs.map .str), .fz)) none)) := by
    have i0 := menu_ix0 c d r hr
    have i1 := menu_ix1 c d r hr
    have s7 : ∀ a6, dSet 7 (dLst (dCons (dBin gIx (dVar 3) (dC (.int 0))) (dCons (dBin gIx (dVar 3) (dC (.int 1))) dNil))) (rfE ns (pD (kindOf mk) P) (kindOf mk) (tx (c :: d :: r)) n (some (.int N, .fz)) a6 none none) = some (.nx (rfE ns (pD (kindOf mk) P) (kindOf mk) (tx (c :: d :: r)) n (some (.int N, .fz)) a6 (some (.lst [.str (xs c 1), .str (xs d 1)], .fz)) none)) := fun a6 =>
      E.set (E.lst (E.cons (E.bin (x := .str (tx (c :: d :: r))) rfl rfl i0) (E.cons (E.bin (x := .str (tx (c :: d :: r))) rfl rfl i1) rfl)) (by show (2 : Nat) ≤ 100000; decide)) rfl
    have hcond : ∀ a6 a7, dBin (gIc (fun _ j => 0 < j) fun i j => i % j) (dMap gInt (dBin (gIc CDivW fun i j => i / j) (dVar 5) (dC (.int 4)))) (dC (.int 3)) (rfE ns (pD (kindOf mk) P) (kindOf mk) (tx (c :: d :: r)) n (some (.int N, .fz)) a6 a7 none) = some (.int ((N : Int) / 4 % 3)) := fun a6 a7 =>
      E.bin (x := .int ((N : Int) / 4)) (E.map (x := .int ((N : Int) / 4)) (E.bin (x := .int N) (y := .int 4) rfl rfl (gDiv (by decide) (by decide))) rfl) rfl (gMod (by decide))
    by_cases q : (N : Int) / 4 % 3 = 0
    · refine ⟨[xs c 3 ++ tx [d]], fun s hs2 => ?_, by simp, two_b hcd, fun _ a6 => ?_⟩
      · have : s = xs c 3 ++ tx [d] := by simpa using hs2
        rw [this]
        unfold xs
        rw [tx_app, tx_len]
        simp
      · refine E.seq (s7 a6) (E.if_t (E.bb (E.bin (hcond a6 _) (y := .int 0) rfl (gEq_int_t q))) (E.set (E.lst (xs := [.str (xs c 3 ++ tx [d])]) (E.cons (E.bin (x := .str (xs c 3)) (y := .str (xs d 1)) (E.bin (x := .str (xs c 1)) (y := .int (3 : Nat)) (E.bin (x := .str (tx (c :: d :: r))) rfl rfl i0) rfl (gMulX c (by decide))) (E.bin (x := .str (tx (c :: d :: r))) rfl rfl i1) ?_) rfl) (by show (1 : Nat) ≤ 100000; decide)) rfl))
        rw [gAdd_str (by rw [xs_len, xs_len]; decide)]
        rfl
    · refine ⟨[xs c 1, xs d 1], fun s hs2 => ?_, by simp, two_a hcd, fun _ a6 => E.seq (s7 a6) (E.if_f (E.bb (E.bin (hcond a6 _) (y := .int 0) rfl (gEq_int_f q))) E.next)⟩
      have : s = xs c 1 ∨ s = xs d 1 := by simpa using hs2
      rcases this with z | z <;> rw [z, xs_len] <;> decide
  have hr7 := dMk (n := i) (d := 7) (by decide) (by decide)
  have hpp := pair_poly (kind := kindOf mk) (c := c) hcs hcl hi0 hi5
  have hadd := both_add two inp hlen hi5 ok.d1 ok.nb (kindOf mk)
  have hq : mkRat i 7 ≠ 0 := fun z => hi0 ((mkRat_zero (by decide) i).mp z)
  have honly := both_only two inp hlen hq (kindOf mk)
  obtain ⟨B, hB⟩ : ∃ B, B = sumL P [(tk cs (xs c 0), mkRat i 7)] := ⟨_, rfl⟩
  rw [← hB] at hadd honly
  have r1 := refusal_of (p := pD (kindOf mk) P) (reduce_size hw2) (bs := [true, false, true]) rfl (by decide)
  have r2 := refusal_of (p := pD (kindOf mk) B) (reduce_size hw2) (bs := [true, false, true]) rfl (by decide)
  have r3 := refusal_of (reduce_letters (n := n) h1 hn honly) (bs := [false, true, true]) rfl (by decide)
  let i5 : Option (D × Fl) := some (.int N, .fz)
  let i6 : Option (D × Fl) := some (.int wr, .fz)
  let i7 : Option (D × Fl) := some (.lst (cs.map .str), .fz)
  let i8 : Option (D × Fl) := some (pD (kindOf mk) B, .fz)
  let EE := rfE ns (pD (kindOf mk) P) (kindOf mk) (tx (c :: d :: r)) n
  have ltf : ∀ env : DEnv, dLst (dCons (dC (.bl true)) (dCons (dC (.bl false)) (dCons (dC (.bl true)) dNil))) env = some (blL [true, false, true]) := fun env => E.lst rfl (by decide)
  have lft : ∀ env : DEnv, dLst (dCons (dC (.bl false)) (dCons (dC (.bl true)) (dCons (dC (.bl true)) dNil))) env = some (blL [false, true, true]) := fun env => E.lst rfl (by decide)
  have h78 := h7 i5 i6
  unfold dSeq at h78
  have fin : dSeq (dSet 8 (dBin (gOwn 1 m_Poly___add__) (dVar 1) (dMake 3 m_Poly___init__ [] (dCons (dVar 2) (dCons (dLst (dCons (dTup (dCons (dVar 7) (dCons (dC (.str "")) (dCons (dMake 3 m_Ratio___init___2 [] (dCons (dBin gAdd (dC (.int 1)) (dBin (gIc (fun _ j => 0 < j) fun i j => i % j) (dMap gInt (dBin (gIc CDivW fun i j => i / j) (dVar 5) (dC (.int 12)))) (dC (.int 5)))) (dCons (dC (.int 7)) dNil))) dNil)))) dNil)) dNil))))) (dSeq (dIf (dOr (dB (dBin (gEqA true) (dCall 2 m__law_refusal [] (dCons (dVar 6) (dCons (dVar 1) dNil))) (dLst (dCons (dC (.bl true)) (dCons (dC (.bl false)) (dCons (dC (.bl true)) dNil)))))) (dB (dBin (gEqA true) (dCall 2 m__law_refusal [] (dCons (dVar 6) (dCons (dVar 8) dNil))) (dLst (dCons (dC (.bl true)) (dCons (dC (.bl false)) (dCons (dC (.bl true)) dNil))))))) (dRet (dC (.bl false))) dNext) (dRet (dBin (gEqA false) (dCall 2 m__law_refusal [] (dCons (dVar 4) (dCons (dVar 8) dNil))) (dLst (dCons (dC (.bl false)) (dCons (dC (.bl true)) (dCons (dC (.bl true)) dNil))))))) (EE i5 i6 i7 none) = some (.rt (.bl true)) := by
    refine E.seq (e1 := EE i5 i6 i7 i8) (E.set (E.bin (x := pD (kindOf mk) P) (y := pD (kindOf mk) [(tk cs (xs c 0), mkRat i 7)]) rfl (E.make (xs := [.str (kindOf mk), .lst [.tup [.lst (cs.map .str), .str (xs c 0), rD (mkRat i 7)]]]) (E.cons rfl (E.cons (E.lst (xs := [.tup [.lst (cs.map .str), .str (xs c 0), rD (mkRat i 7)]]) (E.cons (E.tup (xs := [.lst (cs.map .str), .str (xs c 0), rD (mkRat i 7)]) (E.cons rfl (E.cons rfl (E.cons (E.make (xs := [.int i, .int 7]) (E.cons (E.bin (x := .int 1) (y := .int ((N : Int) / 12 % 5)) rfl (E.bin (x := .int ((N : Int) / 12)) (E.map (x := .int ((N : Int) / 12)) (E.bin (x := .int N) (y := .int 12) rfl rfl (gDiv (by decide) (by decide))) rfl) rfl (gMod (by decide))) ?_) rfl) rfl hr7) rfl))) (by show (3 : Nat) ≤ 100000; decide)) rfl) (by show (1 : Nat) ≤ 100000; decide)) rfl)) rfl hpp) (gOwn1.trans hadd)) rfl) (E.seq (E.if_f (E.or_f (E.bb (E.bin (E.call (xs := [.int wr, pD (kindOf mk) P]) rfl rfl r1) (ltf _) (gEq_bools _))) (E.bb (E.bin (E.call (xs := [.int wr, pD (kindOf mk) B]) rfl rfl r2) (ltf _) (gEq_bools _)))) E.next) (E.ret (E.bin (E.call (xs := [.int n, pD (kindOf mk) B]) rfl rfl r3) (lft _) (gEq_bools _))))
    rw [← hi]; rfl
  have assoc : ∀ {s t u : DS} {env e : DEnv} {o : Out}, dSeq s t env = some (.nx e) → u e = some o → dSeq s (dSeq t u) env = some o := fun {s t u env e o} hst hu => by
    unfold dSeq at hst ⊢
    cases q : s env with
    | none => rw [q] at hst; cases hst
    | some o1 =>
      rw [q] at hst
      cases o1 with
      | nx e1 =>
        dsimp only at hst ⊢
        rw [hst]
        exact hu
      | _ => cases hst
  refine E.runD_rt (E.seq (e1 := EE i5 none none none) (E.set (E.call (xs := [scr ns, .int (15 : Nat)]) rfl rfl hN) rfl) (E.seq (e1 := EE i5 i6 none none) (E.set (E.bin (x := .lst [.int 0, .int 4, .int (-3), .int (10 ^ 20)]) (y := .int ((N : Int) % 4)) (E.lst (E.cons rfl (E.cons rfl (E.cons rfl (E.cons rfl rfl)))) (by decide)) (E.bin (x := .int N) (y := .int 4) rfl rfl (gMod (by decide))) hw1) rfl) (assoc (h7 i5 i6) fin)))
end Pd73

/-! k73: sums of polynomials, the answer as an input, constants. -/
namespace Pd73
open PySem PySem.Spec PyProof.Rows L2 Pd
local macro_rules | `(tactic| trivial) => `(tactic| first
  | assumption
  | (with_reducible apply E.var) <;> rfl
  | with_reducible exact E.next
  | (with_reducible apply E.bin) <;> trivial
  | (with_reducible apply E.map) <;> trivial
  | (with_reducible apply E.cons) <;> trivial
  | (with_reducible apply E.neg) <;> trivial
  | (with_reducible apply E.bb) <;> trivial
  | (with_reducible apply E.not) <;> trivial
  | (with_reducible apply E.tup) <;> trivial
  | (with_reducible apply E.lst) <;> trivial
  | (with_reducible apply E.call) <;> trivial
  | (with_reducible apply E.make) <;> trivial
  | (with_reducible apply E.ixO) <;> trivial
  | (with_reducible apply E.set) <;> trivial
  | (with_reducible apply E.setO) <;> trivial
  | (with_reducible apply E.ret) <;> trivial
  | (with_reducible apply E.app) <;> trivial
  | (with_reducible apply E.rg1) <;> trivial
  | (with_reducible apply E.runD_rt) <;> trivial
  | (with_reducible apply gMod) <;> trivial
  | (with_reducible apply gDiv) <;> trivial
  | (with_reducible apply gMul_int) <;> trivial
  | rfl
  | decide
  | omega)
section
variable {c n K K' b b' over : Nat} {mk : Bool} {l l' : PL} {ts : List TM}
theorem inp_sum (h : InP c mk K b l) (h' : InP c mk K' b' l') (hK : K ≤ 100) (hK' : K' ≤ 100) (hb : b ≤ 2 ^ 170) (hb' : b' ≤ 2 ^ 170) (hl : l.length + l'.length ≤ 4900) (kind : Str) :
    InP c mk (K * K') (b * K' + b' * K) (sumL l l') ∧ m_Poly___add__ [pD kind l, pD kind l'] = some (pD kind (sumL l l')) := by
  have hs : smallL = 100000 := rfl
  have f1 := fit_up K' h.fit
  have f2 := fit_up K h'.fit
  rw [Nat.mul_comm K' K] at f2
  have h0 : 0 < K * K' := Nat.mul_pos h.K0 h'.K0
  have hKK : K * K' ≤ 100 * 100 := Nat.mul_le_mul hK hK'
  have hbb : b * K' + b' * K ≤ 2 ^ 170 * 100 + 2 ^ 170 * 100 := Nat.add_le_add (Nat.mul_le_mul hb hK') (Nat.mul_le_mul hb' hK)
  have nd := acc_nodup (m := l') h.can.nd
  refine ⟨⟨canon_can nd, fun e he => ?_, fit_canon nd (fit_acc f1 f2), h0, ?_, ?_, ?_⟩, Poly_add h.can.nd h'.can.nd h0 (Nat.lt_of_le_of_lt hKK (by decide)) f1 f2 (Nat.lt_of_le_of_lt hbb (by decide)) (by omega)⟩
  · rcases acc_keys e.1 (canon_keys e.1 (List.mem_map.mpr ⟨e, he, rfl⟩)) with z | z
    · obtain ⟨x, hx, ex⟩ := List.mem_map.mp z
      rw [← ex]; exact h.key x hx
    · obtain ⟨x, hx, ex⟩ := List.mem_map.mp z
      rw [← ex]; exact h'.key x hx
  · have h1 := canon_len (acc l l')
    have h2 := acc_len l' l
    unfold sumL
    omega
  · exact Nat.lt_of_le_of_lt (Nat.mul_le_mul_right _ hKK) (by decide)
  · exact Nat.lt_of_le_of_lt (Nat.mul_le_mul_right _ hbb) (by decide)
theorem pulls_zero (hn : n ≤ 3) (h1 : 1 ≤ n) {g : KY → Rat} (h : ∀ xs, g (ku c xs 0) = 0) : ∀ (ns xs : List Nat), pulls c n ns g (ku c xs 0) = 0
  | [], xs => h xs
  | j :: ns, xs => by
    show pull (Tq c n (j - 1)) (pulls c n ns g) (ku c xs 0) = 0
    unfold pull
    rw [S_congr (h := fun _ => 0) fun x hx => ?_, S_zero]
    obtain ⟨ys, ex⟩ := kuT0 hn h1 _ x hx
    rw [ex, jn_ku]
    exact pulls_zero hn h1 h ns _
/-- kind number: no words -/
theorem red_w (h : InP c false K b l) (hn : n ≤ 3) (h1 : 1 ≤ n) : ∀ e ∈ red c n false [] l, wrd e.1 = 0 := fun e he => by
  have t := red_tot h hn h1
  obtain ⟨ns, w, e1, h2, _⟩ := t.key e he
  rw [e1, wrd_uk]
  refine Classical.byContradiction fun hw => t.can.nz e he ?_
  have hcf : cf (red c n false [] l) e.1 = e.2 := cf_mem t.can.nd he
  rw [cf_S, S_red0 _ h hn h1] at hcf
  rw [← hcf]
  have hg : ∀ xs, (fun j => if j = e.1 then (1 : Rat) else 0) (ku c xs 0) = 0 := fun xs => by
    have : ku c xs 0 ≠ e.1 := fun z => by
      have := congrArg wrd z
      rw [e1, wrd_uk] at this
      unfold ku at this
      rw [wrd_uk] at this
      exact hw this.symm
    exact if_neg this
  rw [S_congr (h := fun _ => 0) fun x hx => ?_, S_zero]
  obtain ⟨ns', w', e1', h2', h3', h4', _⟩ := h.key x hx
  have hw0 := h4' rfl
  subst hw0
  rw [e1', ku_srt h2', MF_ku hn h1 _ ns' (fun _ => rfl)]
  unfold RM
  rw [S_mon]
  show S _ (con1 c) = 0
  rw [S_con]
  exact pulls_zero hn h1 hg ns' []
/-- the answer, as an input -/
theorem ans_inp (ok : PolyOk mk over ts) (hn : n ≤ 3) (h1 : 1 ≤ n) : InP c mk (over * 6 ^ 20) (nr over (polyP c over ts) * 54 ^ 20) (red c n mk [] (polyP c over ts)) := by
  have h := poly_inp (c := c) ok
  have t := red_tot h hn h1
  have hnb : nr over (polyP c over ts) ≤ 2 ^ 170 := Nat.le_trans h.fit.n ok.nb
  refine ⟨t.can, fun e he => ?_, t.fit, Nat.mul_pos ok.d0 (by decide), by have := t.len hn; omega, ?_, ?_⟩
  · obtain ⟨ns, w, e1, h2, h3, h4, h5⟩ := t.key e he
    refine ⟨ns, w, e1, h2, fun j hj => (h3 j hj).1, fun hm => ?_, h5⟩
    subst hm
    have := red_w h hn h1 e he
    rw [e1, wrd_uk] at this
    exact this
  · rw [Nat.mul_assoc]
    exact Nat.lt_of_le_of_lt (Nat.mul_le_mul_right _ ok.d1) (by decide)
  · rw [Nat.mul_assoc]
    exact Nat.lt_of_le_of_lt (Nat.mul_le_mul_right _ hnb) (by decide)
/-- constants -/
theorem const_eq {i : Int} (hi : i.natAbs ≤ 6) (h0 : 0 < over) (h4 : over ≤ 4) : PolyOk mk over [([], 0, i)] ∧ m_Poly_constant [.str (kindOf mk), rD (mkRat i over)] = some (pD (kindOf mk) (polyP c over [([], 0, i)])) ∧ (1 ≤ n → Sho c n (polyP c over [([], 0, i)])) := by
  have ok : PolyOk mk over [([], 0, i)] := ⟨fun t ht => by
    have : t = ([], 0, i) := by simpa using ht
    subst this
    exact ⟨fun j hj => (by cases hj), fun _ => rfl, by show (0 : Nat) ≤ 20; decide, Nat.lt_of_le_of_lt hi (by decide)⟩, by show (1 : Nat) ≤ 100; decide, h0, by omega⟩
  refine ⟨ok, ?_, fun h1 e he => ?_⟩
  · have hi := Poly_init (kind := kindOf mk) (ts := [itT c over ([], 0, i)]) (m := over) (c := nb [([], 0, i)]) h0 (Nat.lt_of_le_of_lt h4 (by decide)) (fun t ht => by
      have : t = itT c over ([], 0, i) := by simpa using ht
      subst this
      exact ⟨fun _ => rfl, (fun s hs => by cases hs), Nat.zero_le _⟩) (by
        have := fit_raw (c := c) h0 [([], 0, i)]
        rw [← itK_T] at this
        exact this) (Nat.lt_of_le_of_lt ok.nb (Nat.pow_lt_pow_right (by decide) (by decide))) (by show (1 : Nat) ≤ 100000; decide)
    have e := itK_T c over [([], 0, i)]
    have e' : [itT c over ([], 0, i)].map itK = rawP c over [([], 0, i)] := e
    rw [e'] at hi
    exact E.runD_rt (E.ret (E.make (xs := [.str (kindOf mk), .lst ([itT c over ([], 0, i)].map itD)]) (E.cons rfl (E.cons (E.lst (xs := [itT c over ([], 0, i)].map itD) (E.cons (E.tup (xs := [.lst [], .str (xs c 0), rD (mkRat i over)]) (E.cons (E.lst rfl (by decide)) (E.cons rfl (E.cons rfl rfl))) (by show (3 : Nat) ≤ 100000; decide)) rfl) (by show (1 : Nat) ≤ 100000; decide)) rfl)) rfl hi))
  · rcases acc_keys e.1 (canon_keys e.1 (List.mem_map.mpr ⟨e, he, rfl⟩)) with z | z
    · cases z
    · have : e.1 = ku c [] 0 := by simpa [rawP] using z
      refine ⟨[], 0, this.trans (ku_srt srt_nil 0).symm, srt_nil, (fun j hj => by cases hj), h1⟩
/-- okOf -/
theorem ok_red (h : InP c mk K b l) (hn : n ≤ 3) (h1 : 1 ≤ n) : okOf m_reduce_one [.int n, pD (kindOf mk) l] = some (pD (kindOf mk) (red c n mk [] l)) := by
  unfold okOf
  rw [reduce_eq h hn h1]
theorem inp_ok (h : InP c mk K b l) : ∀ e ∈ l, Ok e.2 := by
  have hK : K < 2 ^ 4000 := Nat.lt_of_le_of_lt (Nat.le_mul_of_pos_right _ (by decide)) h.hK
  have hb : b < 2 ^ 4000 := Nat.lt_of_le_of_lt (Nat.le_mul_of_pos_right _ (by decide)) h.hb
  exact h.fit.ok h.K0 hK hb
theorem inp_keys (h : InP c mk K b l) : ∀ e ∈ l, ∃ ns w, e.1 = uk c ns w := fun e he => by
  obtain ⟨ns, w, e1, _⟩ := h.key e he
  exact ⟨ns, w, e1⟩
/-- equal to itself -/
theorem self_eq (hc : c < 0x110000) (h : InP c mk K b l) (kind : Str) : m__law_equal [pD kind l, pD kind l] = some (.bl true) := equal_eq hc h.can.nd h.len (inp_keys h) (inp_ok h)
end
end Pd73

/-! k73: the law. -/
namespace Pd73
open PySem PySem.Spec PyProof.Rows L2 Pd
local macro_rules | `(tactic| trivial) => `(tactic| first
  | assumption
  | (with_reducible apply E.var) <;> rfl
  | with_reducible exact E.next
  | (with_reducible apply E.bin) <;> trivial
  | (with_reducible apply E.map) <;> trivial
  | (with_reducible apply E.cons) <;> trivial
  | (with_reducible apply E.neg) <;> trivial
  | (with_reducible apply E.bb) <;> trivial
  | (with_reducible apply E.not) <;> trivial
  | (with_reducible apply E.tup) <;> trivial
  | (with_reducible apply E.lst) <;> trivial
  | (with_reducible apply E.call) <;> trivial
  | (with_reducible apply E.make) <;> trivial
  | (with_reducible apply E.ixO) <;> trivial
  | (with_reducible apply E.set) <;> trivial
  | (with_reducible apply E.setO) <;> trivial
  | (with_reducible apply E.ret) <;> trivial
  | (with_reducible apply E.app) <;> trivial
  | (with_reducible apply E.rg1) <;> trivial
  | (with_reducible apply E.runD_rt) <;> trivial
  | (with_reducible apply gMod) <;> trivial
  | (with_reducible apply gDiv) <;> trivial
  | (with_reducible apply gMul_int) <;> trivial
  | rfl
  | decide
  | omega)
theorem lit_ix {l : List Int} {N : Int} {k : Nat} (hk : l.length = k) (h0 : 0 < k) (P : Int → Prop) (hP : ∀ x ∈ l, P x) (hN : 0 ≤ N) : ∃ x, gIx (.lst (l.map D.int)) (.int (N % (k : Int))) = some (.int x) ∧ P x := by
  obtain ⟨a, ha⟩ : ∃ a : Nat, N % (k : Int) = a := ⟨(N % (k : Int)).toNat, by have := Int.emod_nonneg N (show (k : Int) ≠ 0 by omega); omega⟩
  have hl : a < l.length := by
    have := Int.emod_lt_of_pos N (show (0 : Int) < k by omega)
    omega
  rw [ha]
  refine ⟨l[a], atI_nat (by rw [List.getElem?_map, List.getElem?_eq_getElem hl]; rfl), hP _ (List.getElem_mem hl)⟩
/-- the first part: the parameters -/
def lwE (ns : List Int) (N : Nat) (mk : Bool) (n o v c : Nat) (mn : Str) (many : Nat) (sc : Int) (a10 a11 a12 a13 a14 a15 a16 : Option (D × Fl)) : DEnv :=
  [some (scr ns, .fz), some (.int N, .fz), some (.str (kindOf mk), .fz), some (.int n, .fz), some (.int o, .fz), some (.int v, .fz), some (.str mn, .fz), some (.str (xs c 1), .fz), some (.int many, .fz), some (.int sc, .fz), a10, a11, a12, a13, a14, a15, a16, none]
def sclT (sc : Int) (ts : List TM) : List TM := ts.map fun t => (t.1, t.2.1, t.2.2 * sc)
def qTerms : DP := (dLc [17] (.nm 17) (dIt (dCall 6 m__law_powers [] (dCons (dVar 0) (dCons (dC (.int 2)) (dCons (dVar 8) (dCons (dLst (dCons (dC (.int 4)) (dCons (dC (.int 0)) (dCons (dC (.int 1)) (dCons (dC (.int 2)) (dCons (dC (.int 3)) (dCons (dC (.int 5)) (dCons (dC (.int 6)) (dCons (dC (.int 7)) (dCons (dC (.int 8)) (dCons (dC (.int 12)) dNil))))))))))) (dCons (dVar 7) (dCons (dVar 2) dNil)))))))) dYes (dTup (dCons (dBin gIx (dVar 17) (dC (.int 0))) (dCons (dBin gIx (dVar 17) (dC (.int 1))) (dCons (dBin gMul (dBin gIx (dVar 17) (dC (.int 2))) (dVar 9)) dNil)))))
section
variable {ns : List Int} {N n o v c many : Nat} {mk : Bool} {mn : Str} {sc : Int}
theorem terms_eq (h : ns.length ≤ 63) (hm : many ≤ 5) (hsc : sc.natAbs ≤ 10 ^ 40 + 7) : ∃ ts, qTerms (lwE ns N mk n o v c mn many sc none none none none none none none) = some (tmL c ts) ∧ ts.length = many ∧ ∀ t ∈ ts, Dg mk t := by
  have hs : smallL = 100000 := rfl
  obtain ⟨ts, h1, h2, h3⟩ := powers_eq (c := c) (mk := mk) (first := 2) (many := many) (ds := [4, 0, 1, 2, 3, 5, 6, 7, 8, 12]) h (by omega) (by decide) (by decide) (by decide)
  have hc : dCall 6 m__law_powers [] (dCons (dVar 0) (dCons (dC (.int 2)) (dCons (dVar 8) (dCons (dLst (dCons (dC (.int 4)) (dCons (dC (.int 0)) (dCons (dC (.int 1)) (dCons (dC (.int 2)) (dCons (dC (.int 3)) (dCons (dC (.int 5)) (dCons (dC (.int 6)) (dCons (dC (.int 7)) (dCons (dC (.int 8)) (dCons (dC (.int 12)) dNil))))))))))) (dCons (dVar 7) (dCons (dVar 2) dNil)))))) (lwE ns N mk n o v c mn many sc none none none none none none none) = some (tmL c ts) :=
    E.call (xs := [scr ns, .int (2 : Nat), .int many, dgs [4, 0, 1, 2, 3, 5, 6, 7, 8, 12], .str (xs c 1), .str (kindOf mk)]) (E.cons rfl (E.cons rfl (E.cons rfl (E.cons (E.lst rfl (by decide)) rfl)))) rfl h1
  have n6 : ∀ t ∈ ts, (t.2.2 * sc).natAbs < 2 ^ 160 := fun t ht => by
    rw [Int.natAbs_mul]
    exact Nat.lt_of_le_of_lt (Nat.mul_le_mul (h3 t ht).1.n hsc) (by decide)
  refine ⟨sclT sc ts, E.lc (l := ts.map (tmD c)) (E.it_l hc) (by rw [List.length_map]; omega) (E.comp (by simp [sclT]) fun a x y hx hy => ?_), by unfold sclT; rw [List.length_map]; exact h2, fun t ht => ?_⟩
  · obtain ⟨t, q1, rfl⟩ := map_at hx
    unfold sclT at hy
    rw [List.map_map, List.getElem?_map, q1] at hy
    cases hy
    have hmem := List.mem_of_getElem? q1
    have w : CMulW t.2.2 sc := mulW (a := 200) (b := 200) (Nat.lt_of_le_of_lt (h3 t hmem).1.n (by decide)) (Nat.lt_of_le_of_lt hsc (by decide)) (by decide) (by decide) (by decide)
    exact ⟨_, rfl, rfl, E.tup (xs := [.lst (cyL c t.1), .str (xs c t.2.1), .int (t.2.2 * sc)]) (E.cons (E.bin (x := tmD c t) (y := .int 0) rfl rfl rfl) (E.cons (E.bin (x := tmD c t) (y := .int 1) rfl rfl rfl) (E.cons (E.bin (x := .int t.2.2) (y := .int sc) (E.bin (x := tmD c t) (y := .int 2) rfl rfl rfl) rfl (gMul_int w)) rfl))) (by show (3 : Nat) ≤ 100000; decide)⟩
  · obtain ⟨u, hu, rfl⟩ := List.mem_map.mp ht
    obtain ⟨g1, g2⟩ := h3 u hu
    refine ⟨g1.j, g1.w, ?_, n6 u hu⟩
    show u.1.sum + u.2.1 ≤ 20
    have : ∀ d ∈ [4, 0, 1, 2, 3, 5, 6, 7, 8, 12], d ≤ 20 := by decide
    exact this _ g2
def qMore : DS := (dIf (dAnd (dB (dBin (gLt) (dVar 3) (dC (.int 3)))) (dAnd (dB (dBin (gLt) (dVar 4) (dC (.int 3)))) (dB (dBin (gEqA false) (dBin (gIc (fun _ j => 0 < j) fun i j => i % j) (dMap gInt (dCall 2 m__law_number [] (dCons (dVar 0) (dCons (dC (.int 20)) dNil)))) (dC (.int 2))) (dC (.int 0)))))) (dFrz 10 (dSet 10 (dBin gAdd (dVar 10) (dCall 6 m__law_powers [] (dCons (dVar 0) (dCons (dC (.int 19)) (dCons (dC (.int 1)) (dCons (dBin gIx (dLst (dCons (dLst (dCons (dC (.int 17)) (dCons (dC (.int 18)) (dCons (dC (.int 19)) (dCons (dC (.int 20)) dNil))))) (dCons (dLst (dCons (dC (.int 13)) (dCons (dC (.int 14)) (dCons (dC (.int 15)) (dCons (dC (.int 16)) dNil))))) dNil))) (dBin (gI fun i j => i - j) (dMax2 (dCons (dVar 3) (dCons (dVar 4) dNil))) (dC (.int 1)))) (dCons (dVar 7) (dCons (dVar 2) dNil)))))))))) dNext)
theorem more_eq (h : ns.length ≤ 63) (hn1 : 1 ≤ n) (ho1 : 1 ≤ o) {ts : List TM} (hl : ts.length ≤ 5) (ht : ∀ t ∈ ts, Dg mk t) : ∃ ts' fl, qMore (lwE ns N mk n o v c mn many sc (some (tmL c ts, .ow)) none none none none none none) = some (.nx (lwE ns N mk n o v c mn many sc (some (tmL c ts', fl)) none none none none none none)) ∧ ts'.length ≤ 6 ∧ ∀ t ∈ ts', Dg mk t := by
  have hs : smallL = 100000 := rfl
  have stay : ∃ ts' fl, some (Out.nx (lwE ns N mk n o v c mn many sc (some (tmL c ts, .ow)) none none none none none none)) = some (.nx (lwE ns N mk n o v c mn many sc (some (tmL c ts', fl)) none none none none none none)) ∧ ts'.length ≤ 6 ∧ ∀ t ∈ ts', Dg mk t := ⟨ts, .ow, rfl, by omega, ht⟩
  by_cases q1 : n < 3
  · have c1 : dB (dBin gLt (dVar 3) (dC (.int 3))) (lwE ns N mk n o v c mn many sc (some (tmL c ts, .ow)) none none none none none none) = some true := E.bb (E.bin (x := .int n) (y := .int 3) rfl rfl (gLt_t (by omega)))
    by_cases q2 : o < 3
    · have c2 : dB (dBin gLt (dVar 4) (dC (.int 3))) (lwE ns N mk n o v c mn many sc (some (tmL c ts, .ow)) none none none none none none) = some true := E.bb (E.bin (x := .int o) (y := .int 3) rfl rfl (gLt_t (by omega)))
      obtain ⟨M, hM⟩ := number_eq h (k := 20) (by decide)
      have hnum : dBin (gIc (fun _ j => 0 < j) fun i j => i % j) (dMap gInt (dCall 2 m__law_number [] (dCons (dVar 0) (dCons (dC (.int 20)) dNil)))) (dC (.int 2)) (lwE ns N mk n o v c mn many sc (some (tmL c ts, .ow)) none none none none none none) = some (.int ((M : Int) % 2)) :=
        E.bin (x := .int M) (y := .int 2) (E.map (x := .int M) (E.call (xs := [scr ns, .int (20 : Nat)]) rfl rfl hM) rfl) rfl (gMod (by decide))
      by_cases q3 : (M : Int) % 2 = 0
      · obtain ⟨ds, hd, hds⟩ : ∃ ds, gIx (.lst [dgs [17, 18, 19, 20], dgs [13, 14, 15, 16]]) (.int ((if (o : Int) > n then (o : Int) else n) - 1)) = some (dgs ds) ∧ (ds = [17, 18, 19, 20] ∨ ds = [13, 14, 15, 16]) := by
          have : (if (o : Int) > n then (o : Int) else n) - 1 = 0 ∨ (if (o : Int) > n then (o : Int) else n) - 1 = 1 := by split <;> omega
          rcases this with z | z
          · rw [z]; exact ⟨_, rfl, .inl rfl⟩
          · rw [z]; exact ⟨_, rfl, .inr rfl⟩
        obtain ⟨us, h1, h2, h3⟩ := powers_eq (c := c) (mk := mk) (first := 19) (many := 1) (ds := ds) h (by decide) (by rcases hds with z | z <;> rw [z] <;> decide) (by rcases hds with z | z <;> rw [z] <;> decide) (by rcases hds with z | z <;> rw [z] <;> decide)
        have hd20 : ∀ d ∈ ds, d ≤ 20 := by rcases hds with z | z <;> rw [z] <;> decide
        refine ⟨ts ++ us, .fz, E.if_t (E.and_t c1 (E.and_t c2 (E.bb (E.bin hnum (y := .int 0) rfl (gEq_int_t q3))))) (E.frz_ (d := tmL c ts) (fl := .ow) rfl (E.set (d := tmL c (ts ++ us)) (E.bin (x := tmL c ts) (y := tmL c us) rfl (E.call (xs := [scr ns, .int (19 : Nat), .int (1 : Nat), dgs ds, .str (xs c 1), .str (kindOf mk)]) (E.cons rfl (E.cons rfl (E.cons rfl (E.cons (E.bin (x := .lst [dgs [17, 18, 19, 20], dgs [13, 14, 15, 16]]) (y := .int ((if (o : Int) > n then (o : Int) else n) - 1)) (E.lst (E.cons (E.lst rfl (by decide)) (E.cons (E.lst rfl (by decide)) rfl)) (by show (2 : Nat) ≤ 100000; decide)) rfl hd) rfl)))) rfl h1) ?_) rfl)), by rw [List.length_append, h2]; omega, fun t hm => ?_⟩
        · unfold tmL
          rw [gAdd_lst (by rw [List.length_map, List.length_map]; omega), ← List.map_append]
        · rcases List.mem_append.mp hm with z | z
          · exact ht t z
          · obtain ⟨g1, g2⟩ := h3 t z
            exact ⟨g1.j, g1.w, hd20 _ g2, Nat.lt_of_le_of_lt g1.n (by decide)⟩
      · have : qMore (lwE ns N mk n o v c mn many sc (some (tmL c ts, .ow)) none none none none none none) = some (.nx _) := E.if_f (E.and_t c1 (E.and_t c2 (E.bb (E.bin hnum (y := .int 0) rfl (gEq_int_f q3))))) E.next
        rw [this]; exact stay
    · have : qMore (lwE ns N mk n o v c mn many sc (some (tmL c ts, .ow)) none none none none none none) = some (.nx _) := E.if_f (E.and_t c1 (E.and_f (E.bb (E.bin (x := .int o) (y := .int 3) rfl rfl (gLt_f (by omega)))))) E.next
      rw [this]; exact stay
  · have : qMore (lwE ns N mk n o v c mn many sc (some (tmL c ts, .ow)) none none none none none none) = some (.nx _) := E.if_f (E.and_f (E.bb (E.bin (x := .int n) (y := .int 3) rfl rfl (gLt_f (by omega))))) E.next
    rw [this]; exact stay
end
end Pd73

/-! k73: the law holds. -/
namespace Pd73
open PySem PySem.Spec PyProof.Rows L2 Pd
local macro_rules | `(tactic| trivial) => `(tactic| first
  | assumption
  | (with_reducible apply E.var) <;> rfl
  | with_reducible exact E.next
  | (with_reducible apply E.bin) <;> trivial
  | (with_reducible apply E.map) <;> trivial
  | (with_reducible apply E.cons) <;> trivial
  | (with_reducible apply E.neg) <;> trivial
  | (with_reducible apply E.bb) <;> trivial
  | (with_reducible apply E.not) <;> trivial
  | (with_reducible apply E.tup) <;> trivial
  | (with_reducible apply E.lst) <;> trivial
  | (with_reducible apply E.call) <;> trivial
  | (with_reducible apply E.make) <;> trivial
  | (with_reducible apply E.ixO) <;> trivial
  | (with_reducible apply E.set) <;> trivial
  | (with_reducible apply E.setO) <;> trivial
  | (with_reducible apply E.ret) <;> trivial
  | (with_reducible apply E.app) <;> trivial
  | (with_reducible apply E.rg1) <;> trivial
  | (with_reducible apply E.runD_rt) <;> trivial
  | (with_reducible apply gMod) <;> trivial
  | (with_reducible apply gDiv) <;> trivial
  | (with_reducible apply gMul_int) <;> trivial
  | rfl
  | decide
  | omega)
theorem kind_ix (N : Nat) : ∃ mk, gIx (.lst [.str "number", .str "matrix"]) (.int ((N : Int) % 2)) = some (.str (kindOf mk)) := by
  have : (N : Int) % 2 = 0 ∨ (N : Int) % 2 = 1 := by omega
  rcases this with z | z
  · rw [z]; exact ⟨false, rfl⟩
  · rw [z]; exact ⟨true, rfl⟩
theorem div_mod {N : Nat} {a b : Int} {env : DEnv} (h : dVar 1 env = some (.int N)) (ha : 0 < a) (ha2 : a.natAbs < 2 ^ 60) (hb : 0 < b) : dBin (gIc (fun _ j => 0 < j) fun i j => i % j) (dMap gInt (dBin (gIc CDivW fun i j => i / j) (dVar 1) (dC (.int a)))) (dC (.int b)) env = some (.int ((N : Int) / a % b)) :=
  E.bin (x := .int ((N : Int) / a)) (E.map (x := .int ((N : Int) / a)) (E.bin (x := .int N) (y := .int a) h rfl (gDiv ha ha2)) rfl) rfl (gMod hb)
theorem len_lt {l : PL} (h : l.length ≤ 4900) : (0 : Int) ≤ (l.length : Int) ∧ (l.length : Int) < 2 ^ 62 := ⟨by omega, by omega⟩
def qSame : DS := (dIf (dNot (dB (dCall 2 m__law_equal [] (dCons (dVar 12) (dCons (dCall 2 (okOf m_reduce_one) [] (dCons (dVar 3) (dCons (dVar 15) dNil))) dNil))))) (dRet (dC (.bl false))) dNext)
def qTail : DS := (dSeq (dIf (dB (dBin (gEqA true) (dLenO 1 m_Poly___len__ (dCall 2 (okOf m_reduce_one) [] (dCons (dVar 3) (dCons (dVar 14) dNil)))) (dC (.int 0)))) (dRet (dC (.bl false))) dNext) (dSeq (dSet 16 (dCall 2 m_Poly_constant [] (dCons (dVar 2) (dCons (dMake 3 m_Ratio___init___2 [] (dCons (dBin (gI fun i j => i - j) (dBin (gIc (fun _ j => 0 < j) fun i j => i % j) (dMap gInt (dCall 2 m__law_number [] (dCons (dVar 0) (dCons (dC (.int 18)) dNil)))) (dC (.int 13))) (dC (.int 6))) (dCons (dVar 5) dNil))) dNil)))) (dSeq (dIf (dNot (dB (dCall 2 m__law_equal [] (dCons (dVar 16) (dCons (dCall 2 (okOf m_reduce_one) [] (dCons (dVar 3) (dCons (dVar 16) dNil))) dNil))))) (dRet (dC (.bl false))) dNext) (dRet (dCall 4 m__law_same_poly [] (dCons (dVar 11) (dCons (dVar 2) (dCons (dCall 1 m__law_rows [] (dCons (dVar 10) dNil)) (dCons (dVar 5) dNil)))))))))
def qRest : DS := (dSeq (dIf (dNot (dB (dCall 5 m__law_refuses [] (dCons (dVar 0) (dCons (dVar 11) (dCons (dVar 2) (dCons (dVar 6) (dCons (dVar 3) dNil)))))))) (dRet (dC (.bl false))) dNext) (dSeq (dSet 12 (dCall 2 (okOf m_reduce_one) [] (dCons (dVar 3) (dCons (dVar 11) dNil)))) (dSeq (dSet 13 (dCall 3 m__law_matrix [] (dCons (dCall 2 m__law_number [] (dCons (dVar 0) (dCons (dC (.int 16)) dNil))) (dCons (dVar 3) (dCons (dC (.int 3)) dNil))))) (dSeq (dIf (dNot (dB (dCall 7 m__law_value_stays [] (dCons (dVar 12) (dCons (dVar 2) (dCons (dVar 10) (dCons (dVar 5) (dCons (dVar 7) (dCons (dVar 3) (dCons (dVar 13) dNil)))))))))) (dRet (dC (.bl false))) dNext) (dSeq (dSet 13 (dCall 3 m__law_matrix [] (dCons (dCall 2 m__law_number [] (dCons (dVar 0) (dCons (dC (.int 17)) dNil))) (dCons (dVar 4) (dCons (dC (.int 3)) dNil))))) (dSeq (dIf (dNot (dB (dCall 7 m__law_value_stays [] (dCons (dCall 2 (okOf m_reduce_one) [] (dCons (dVar 4) (dCons (dVar 11) dNil))) (dCons (dVar 2) (dCons (dVar 10) (dCons (dVar 5) (dCons (dVar 7) (dCons (dVar 4) (dCons (dVar 13) dNil)))))))))) (dRet (dC (.bl false))) dNext) (dSeq (dSet 14 (dCall 3 m__law_poly [] (dCons (dVar 2) (dCons (dCall 4 m__law_nothing [] (dCons (dVar 0) (dCons (dVar 2) (dCons (dVar 7) (dCons (dVar 3) dNil))))) (dCons (dC (.int 6)) dNil))))) (dSeq (dFor (.nm 15) (dIt (dLst (dCons (dVar 11) (dCons (dBin (gOwn 1 m_Poly___add__) (dVar 11) (dVar 14)) (dCons (dBin (gOwn 1 m_Poly___add__) (dVar 14) (dVar 11)) (dCons (dVar 12) dNil)))))) qSame) qTail))))))))
section
variable {ns : List Int} {N n o v c d many : Nat} {mk : Bool} {r : List Nat} {sc : Int}
theorem rest_eq (h : ns.length ≤ 63) (hn1 : 1 ≤ n) (hn : n ≤ 3) (ho1 : 1 ≤ o) (ho : o ≤ 3) (hv1 : 1 ≤ v) (hv : v ≤ 4) (hcd : c ≠ d) (hc : c < 200) (hr : r.length = 4) {ts : List TM} (hl : ts.length ≤ 6) (ht : ∀ t ∈ ts, Dg mk t) :
    qRest (lwE ns N mk n o v c (tx (c :: d :: r)) many sc (some (tmL c ts, .fz)) (some (pD (kindOf mk) (polyP c v ts), .fz)) none none none none none) = some (.rt (.bl true)) := by
  have hs : smallL = 100000 := rfl
  have hc2 : c < 0x110000 := by omega
  have ok : PolyOk mk v ts := ⟨ht, by omega, by omega, by omega⟩
  have inp := poly_inp (c := c) ok
  obtain ⟨P, hP⟩ : ∃ P, P = polyP c v ts := ⟨_, rfl⟩
  obtain ⟨A, hA⟩ : ∃ A, A = red c n mk [] (polyP c v ts) := ⟨_, rfl⟩
  obtain ⟨A2, hA2⟩ : ∃ A, A = red c o mk [] (polyP c v ts) := ⟨_, rfl⟩
  have rf := refuses_eq (n := n) (d := d) h hcd hr hn1 hn ok (c := c)
  have r1 := ok_red inp hn hn1
  have r2 := ok_red (n := o) inp ho ho1
  obtain ⟨M1, hM1⟩ := number_eq h (k := 16) (by decide)
  obtain ⟨M2, hM2⟩ := number_eq h (k := 17) (by decide)
  obtain ⟨M3, hM3⟩ := number_eq h (k := 18) (by decide)
  obtain ⟨f1, hf1, hb1⟩ := matrix_eq (n := n) (N := M1) hn
  obtain ⟨f2, hf2, hb2⟩ := matrix_eq (n := o) (N := M2) ho
  have s1 := stays_eq (c := c) ok hn hn1 hb1
  have s2 := stays_eq (c := c) ok ho ho1 hb2
  obtain ⟨F, O, k, hz, hF, hO, hk⟩ := nothing_eq (c := c) (mk := mk) h hn1 hn
  have zok := zero_ok (mk := mk) hn hF hO hk
  have zp := law_poly_eq (c := c) zok
  have zinp := poly_inp (c := c) zok
  have zS := fun g => zero_S (c := c) (mk := mk) hn hn1 hF hO hk g
  have pl : (polyP c v ts).length ≤ 2000 := by
    have h1 := canon_len (acc [] (rawP c v ts))
    have h2 := acc_len (rawP c v ts) []
    have h3 : (rawP c v ts).length = ts.length := by unfold rawP; rw [List.length_map]
    unfold polyP
    simp only [List.length_nil] at h2
    omega
  have zl : (polyP c 6 (zeroT mk n F O k)).length ≤ 2000 := by
    have h1 := canon_len (acc [] (rawP c 6 (zeroT mk n F O k)))
    have h2 := acc_len (rawP c 6 (zeroT mk n F O k)) []
    have h3 : (rawP c 6 (zeroT mk n F O k)).length = (zeroT mk n F O k).length := by unfold rawP; rw [List.length_map]
    have := zok.l
    unfold polyP
    simp only [List.length_nil] at h2
    omega
  obtain ⟨Z, hZ⟩ : ∃ Z, Z = polyP c 6 (zeroT mk n F O k) := ⟨_, rfl⟩
  rw [← hP] at rf r1 r2 s1 s2 inp hA hA2 pl ⊢
  rw [← hZ] at zp zinp zS zl
  obtain ⟨i1, a1⟩ := inp_sum inp zinp (by omega) (by decide) ok.nb zok.nb (by omega) (kindOf mk)
  obtain ⟨i2, a2⟩ := inp_sum zinp inp (by decide) (by omega) zok.nb ok.nb (by omega) (kindOf mk)
  have ia := ans_inp (c := c) ok hn hn1
  rw [← hP, ← hA] at ia
  have t1 : red c n mk [] (sumL P Z) = A := by
    rw [hA]
    exact red_eq i1 inp hn hn1 fun γ => by rw [S_sum _ inp.can.nd, zS]; grind
  have t2 : red c n mk [] (sumL Z P) = A := by
    rw [hA]
    exact red_eq i2 inp hn hn1 fun γ => by rw [S_sum _ zinp.can.nd, zS]; grind
  have sho : Sho c n A := by rw [hA, hP]; exact red_sho (poly_inp (c := c) ok) hn hn1
  have t3 : red c n mk [] A = A := red_short ia hn hn1 sho
  have t4 : red c n mk [] Z = [] := red_nil zinp hn hn1 zS
  have q1 := ok_red i1 hn hn1
  have q2 := ok_red i2 hn hn1
  have q3 := ok_red ia hn hn1
  have q4 := ok_red zinp hn hn1
  rw [t1] at q1
  rw [t2] at q2
  rw [t3] at q3
  rw [t4] at q4
  rw [← hA] at r1 s1
  rw [← hA2] at r2 s2
  have eqA := self_eq hc2 ia (kindOf mk)
  obtain ⟨i, hi, hi6⟩ : ∃ i : Int, (M3 : Int) % 13 - 6 = i ∧ i.natAbs ≤ 6 := ⟨_, rfl, by omega⟩
  obtain ⟨cok, hcst, csho⟩ := const_eq (c := c) (n := n) (mk := mk) (over := v) hi6 (by omega) hv
  have cinp := poly_inp (c := c) cok
  obtain ⟨C, hC⟩ : ∃ C, C = polyP c v [([], 0, i)] := ⟨_, rfl⟩
  rw [← hC] at hcst csho cinp
  have q5 := ok_red cinp hn hn1
  rw [red_short cinp hn hn1 (csho hn1)] at q5
  have eqC := self_eq hc2 cinp (kindOf mk)
  have hrat := dMk (n := i) (d := (v : Int)) (by omega) (by rw [Int.natAbs_natCast]; exact Nat.lt_of_le_of_lt hv (by decide))
  rw [Int.toNat_natCast] at hrat
  have hrows := rows_eq (c := c) (ts := ts) (fun t hm => by
    have g := ht t hm
    have := len_le_sum g.j
    have := g.d
    exact ⟨fun j hj => by have := g.le hj; omega, by omega⟩) (by omega)
  have hsame := same_poly_eq (c := c) hc2 ok
  rw [← hP] at hsame
  let EE := lwE ns N mk n o v c (tx (c :: d :: r)) many sc (some (tmL c ts, .fz)) (some (pD (kindOf mk) P, .fz))
  let x12 : Option (D × Fl) := some (pD (kindOf mk) A, .fz)
  let x13 : Option (D × Fl) := some (rowsD n f1, .fz)
  let y13 : Option (D × Fl) := some (rowsD o f2, .fz)
  let x14 : Option (D × Fl) := some (pD (kindOf mk) Z, .fz)
  let x16 : Option (D × Fl) := some (pD (kindOf mk) C, .fz)
  obtain ⟨e, g1, g2⟩ := E.loop (tt := .nm 15) (body := qSame) (l := [pD (kindOf mk) P, pD (kindOf mk) (sumL P Z), pD (kindOf mk) (sumL Z P), pD (kindOf mk) A]) (P := fun _ e => ∃ x15, e = EE x12 y13 x14 x15 none) (fun a e p hp0 hP0 => by
    obtain ⟨x15, rfl⟩ := hP0
    have hred : okOf m_reduce_one [.int n, p] = some (pD (kindOf mk) A) := by
      have hm := List.mem_of_getElem? hp0
      simp only [List.mem_cons, List.not_mem_nil, or_false] at hm
      rcases hm with z | z | z | z <;> rw [z]
      · exact r1
      · exact q1
      · exact q2
      · exact q3
    exact ⟨_, EE x12 y13 x14 (some (p, .fz)) none, rfl, E.if_f (E.not (b := true) (E.bb (E.call (xs := [pD (kindOf mk) A, pD (kindOf mk) A]) (E.cons rfl (E.cons (E.call (xs := [.int n, p]) rfl rfl hred) rfl)) rfl eqA))) E.next, _, rfl⟩) (env := EE x12 y13 x14 none none) ⟨none, rfl⟩
  obtain ⟨x15, rfl⟩ := g2
  unfold qRest
  refine E.seq (E.if_f (E.not (b := true) (E.bb (E.call (xs := [scr ns, pD (kindOf mk) P, .str (kindOf mk), .str (tx (c :: d :: r)), .int n]) rfl rfl rf))) E.next) (E.seq (e1 := EE x12 none none none none) (E.set (E.call (xs := [.int n, pD (kindOf mk) P]) rfl rfl r1) rfl) (E.seq (e1 := EE x12 x13 none none none) (E.set (E.call (xs := [.int M1, .int n, .int 3]) (E.cons (E.call (xs := [scr ns, .int (16 : Nat)]) rfl rfl hM1) rfl) rfl hf1) rfl) (E.seq (E.if_f (E.not (b := true) (E.bb (E.call (xs := [pD (kindOf mk) A, .str (kindOf mk), tmL c ts, .int v, .str (xs c 1), .int n, rowsD n f1]) rfl rfl s1))) E.next) (E.seq (e1 := EE x12 y13 none none none) (E.set (E.call (xs := [.int M2, .int o, .int 3]) (E.cons (E.call (xs := [scr ns, .int (17 : Nat)]) rfl rfl hM2) rfl) rfl hf2) rfl) (E.seq (E.if_f (E.not (b := true) (E.bb (E.call (xs := [pD (kindOf mk) A2, .str (kindOf mk), tmL c ts, .int v, .str (xs c 1), .int o, rowsD o f2]) (E.cons (E.call (xs := [.int o, pD (kindOf mk) P]) rfl rfl r2) rfl) rfl s2))) E.next) (E.seq (e1 := EE x12 y13 x14 none none) (E.set (E.call (xs := [.str (kindOf mk), tmL c (zeroT mk n F O k), .int (6 : Nat)]) (E.cons rfl (E.cons (E.call (xs := [scr ns, .str (kindOf mk), .str (xs c 1), .int n]) rfl rfl hz) rfl)) rfl zp) rfl) (E.seq (E.for_ (E.it_l (E.lst (E.cons rfl (E.cons (E.bin (x := pD (kindOf mk) P) (y := pD (kindOf mk) Z) rfl rfl (gOwn1.trans a1)) (E.cons (E.bin (x := pD (kindOf mk) Z) (y := pD (kindOf mk) P) rfl rfl (gOwn1.trans a2)) (E.cons rfl rfl)))) (by show (4 : Nat) ≤ 100000; decide))) g1) ?_)))))))
  unfold qTail
  have hlen0 : dLenO 1 m_Poly___len__ (dCall 2 (okOf m_reduce_one) [] (dCons (dVar 3) (dCons (dVar 14) dNil))) (EE x12 y13 x14 x15 none) = some (.int 0) := by
    have hcall : dCall 2 (okOf m_reduce_one) [] (dCons (dVar 3) (dCons (dVar 14) dNil)) (EE x12 y13 x14 x15 none) = some (pD (kindOf mk) []) := E.call (xs := [.int n, pD (kindOf mk) Z]) rfl rfl q4
    have hpl := Poly_len (kindOf mk) []
    rw [pD_obj] at hcall hpl
    unfold dLenO
    rw [hcall]
    dsimp only
    rw [if_pos rfl, hpl]
    dsimp only
    rw [if_pos (by decide)]
    rfl
  refine E.seq (E.if_f (E.bb (E.bin hlen0 (y := .int 0) rfl (gEq_int_t rfl))) E.next) (E.seq (e1 := EE x12 y13 x14 x15 x16) (E.set (E.call (xs := [.str (kindOf mk), rD (mkRat i v)]) (E.cons rfl (E.cons (E.make (xs := [.int i, .int v]) (E.cons (E.bin (x := .int ((M3 : Int) % 13)) (y := .int 6) (E.bin (x := .int M3) (y := .int 13) (E.map (x := .int M3) (E.call (xs := [scr ns, .int (18 : Nat)]) rfl rfl hM3) rfl) rfl (gMod (by decide))) rfl ?_) rfl) rfl hrat) rfl)) rfl hcst) rfl) (E.seq (E.if_f (E.not (b := true) (E.bb (E.call (xs := [pD (kindOf mk) C, pD (kindOf mk) C]) (E.cons rfl (E.cons (E.call (xs := [.int n, pD (kindOf mk) C]) rfl rfl q5) rfl)) rfl eqC))) E.next) (E.ret (E.call (xs := [pD (kindOf mk) P, .str (kindOf mk), .lst ((canI (accI [] (keyI c ts))).map rowI1), .int v]) (E.cons rfl (E.cons rfl (E.cons (E.call (xs := [tmL c ts]) rfl rfl hrows) rfl))) rfl hsame))))
  rw [← hi]; rfl
end
theorem plain (ns : List Int) (h : ns.length ≤ 63) : m_law [.lst (ns.map D.int)] = some (.bl true) := by
  have hs : smallL = 100000 := rfl
  obtain ⟨N, hN⟩ := number_eq h (k := 0) (by decide)
  obtain ⟨N1, hN1⟩ := number_eq h (k := 1) (by decide)
  obtain ⟨c, d, r, hmenu, hcd, hr, hc⟩ := menu_eq N1
  obtain ⟨mk, hmk⟩ := kind_ix N
  obtain ⟨_, hn0, n, rfl, hn1, hn⟩ := lit_ix (l := [3, 2, 1, 2, 3]) (N := (N : Int) / 2) (k := 5) rfl (by decide) (fun x => ∃ n : Nat, x = n ∧ 1 ≤ n ∧ n ≤ 3) (fun x hx => by
    have : x = 3 ∨ x = 2 ∨ x = 1 := by
      simp only [List.mem_cons, List.not_mem_nil, or_false] at hx
      omega
    rcases this with z | z | z
    · exact ⟨3, z, by decide, by decide⟩
    · exact ⟨2, z, by decide, by decide⟩
    · exact ⟨1, z, by decide, by decide⟩) (by omega)
  obtain ⟨o, ho0, ho1, ho⟩ : ∃ o : Nat, 1 + (N : Int) / 10 % 3 = o ∧ 1 ≤ o ∧ o ≤ 3 := ⟨1 + N / 10 % 3, by omega, by omega, by omega⟩
  obtain ⟨v, hv0, hv1, hv⟩ : ∃ v : Nat, 1 + (N : Int) / 30 % 4 = v ∧ 1 ≤ v ∧ v ≤ 4 := ⟨1 + N / 30 % 4, by omega, by omega, by omega⟩
  obtain ⟨_, hm0, many, rfl, hm⟩ := lit_ix (l := [0, 2, 1, 3, 3, 4, 5]) (N := (N : Int) / 120) (k := 7) rfl (by decide) (fun x => ∃ n : Nat, x = n ∧ n ≤ 5) (fun x hx => by
    have : 0 ≤ x ∧ x ≤ 5 := by
      simp only [List.mem_cons, List.not_mem_nil, or_false] at hx
      omega
    exact ⟨x.toNat, by omega, by omega⟩) (by omega)
  obtain ⟨sc, hsc0, hsc⟩ := lit_ix (l := [1, 1, 1, 1, 1, 10 ^ 40 + 7]) (N := (N : Int) / 840) (k := 6) rfl (by decide) (fun x => x.natAbs ≤ 10 ^ 40 + 7) (by decide) (by omega)
  obtain ⟨ts0, hts0, hl0, ht0⟩ := terms_eq (N := N) (n := n) (o := o) (v := v) (c := c) (mk := mk) (mn := tx (c :: d :: r)) h hm hsc
  obtain ⟨ts, fl, hmore, hl, ht⟩ := more_eq (N := N) (n := n) (o := o) (v := v) (c := c) (many := many) (mk := mk) (mn := tx (c :: d :: r)) (sc := sc) h hn1 ho1 (by omega : ts0.length ≤ 5) ht0
  have ok : PolyOk mk v ts := ⟨ht, by omega, by omega, by omega⟩
  have hpoly := law_poly_eq (c := c) ok
  have hrest := rest_eq (ns := ns) (N := N) (n := n) (o := o) (v := v) (c := c) (d := d) (many := many) (mk := mk) (r := r) (sc := sc) h hn1 hn ho1 ho hv1 hv hcd hc hr hl ht
  have hm7 := menu_ix0 c d r hr
  let M : Str := tx (c :: d :: r)
  let z17 : DEnv := [none, none, none, none, none, none, none, none]
  have l5 : ∀ env : DEnv, dLst (dCons (dC (.int 3)) (dCons (dC (.int 2)) (dCons (dC (.int 1)) (dCons (dC (.int 2)) (dCons (dC (.int 3)) dNil))))) env = some (.lst ([3, 2, 1, 2, 3].map D.int)) := fun env => E.lst rfl (by decide)
  have l7 : ∀ env : DEnv, dLst (dCons (dC (.int 0)) (dCons (dC (.int 2)) (dCons (dC (.int 1)) (dCons (dC (.int 3)) (dCons (dC (.int 3)) (dCons (dC (.int 4)) (dCons (dC (.int 5)) dNil))))))) env = some (.lst ([0, 2, 1, 3, 3, 4, 5].map D.int)) := fun env => E.lst rfl (by decide)
  have l6 : ∀ env : DEnv, dLst (dCons (dC (.int 1)) (dCons (dC (.int 1)) (dCons (dC (.int 1)) (dCons (dC (.int 1)) (dCons (dC (.int 1)) (dCons (dBin gAdd (dBin (gIc CPow fun i j => i ^ j.toNat) (dC (.int 10)) (dC (.int 40))) (dC (.int 7))) dNil)))))) env = some (.lst ([1, 1, 1, 1, 1, 10 ^ 40 + 7].map D.int)) := fun env => E.lst (E.cons rfl (E.cons rfl (E.cons rfl (E.cons rfl (E.cons rfl (E.cons (E.bin (x := .int (10 ^ 40)) (y := .int 7) rfl rfl rfl) rfl)))))) (by decide)
  have lk : ∀ env : DEnv, dLst (dCons (dC (.str "number")) (dCons (dC (.str "matrix")) dNil)) env = some (.lst [.str "number", .str "matrix"]) := fun env => E.lst rfl (by decide)
  refine E.runD_rt (E.seq (e1 := some (scr ns, .fz) :: some (.int N, .fz) :: none :: none :: none :: none :: none :: none :: none :: none :: z17) (E.set (E.call (xs := [scr ns, .int (0 : Nat)]) rfl rfl hN) rfl) (E.seq (e1 := some (scr ns, .fz) :: some (.int N, .fz) :: some (.str (kindOf mk), .fz) :: none :: none :: none :: none :: none :: none :: none :: z17) (E.set (E.bin (lk _) (E.bin (x := .int N) (y := .int 2) rfl rfl (gMod (by decide))) hmk) rfl) (E.seq (e1 := some (scr ns, .fz) :: some (.int N, .fz) :: some (.str (kindOf mk), .fz) :: some (.int n, .fz) :: none :: none :: none :: none :: none :: none :: z17) (E.set (E.bin (l5 _) (div_mod (N := N) rfl (by decide) (by decide) (by decide)) hn0) rfl) (E.seq (e1 := some (scr ns, .fz) :: some (.int N, .fz) :: some (.str (kindOf mk), .fz) :: some (.int n, .fz) :: some (.int o, .fz) :: none :: none :: none :: none :: none :: z17) (E.set (E.bin (x := .int 1) rfl (div_mod (N := N) rfl (by decide) (by decide) (by decide)) ?_) rfl) (E.seq (e1 := some (scr ns, .fz) :: some (.int N, .fz) :: some (.str (kindOf mk), .fz) :: some (.int n, .fz) :: some (.int o, .fz) :: some (.int v, .fz) :: none :: none :: none :: none :: z17) (E.set (E.bin (x := .int 1) rfl (div_mod (N := N) rfl (by decide) (by decide) (by decide)) ?_) rfl) (E.seq (e1 := some (scr ns, .fz) :: some (.int N, .fz) :: some (.str (kindOf mk), .fz) :: some (.int n, .fz) :: some (.int o, .fz) :: some (.int v, .fz) :: some (.str M, .fz) :: none :: none :: none :: z17) (E.set (E.call (xs := [.int N1]) (E.cons (E.call (xs := [scr ns, .int (1 : Nat)]) rfl rfl hN1) rfl) rfl hmenu) rfl) (E.seq (e1 := some (scr ns, .fz) :: some (.int N, .fz) :: some (.str (kindOf mk), .fz) :: some (.int n, .fz) :: some (.int o, .fz) :: some (.int v, .fz) :: some (.str M, .fz) :: some (.str (xs c 1), .fz) :: none :: none :: z17) (E.set (E.bin (x := .str M) rfl rfl hm7) rfl) (E.seq (e1 := some (scr ns, .fz) :: some (.int N, .fz) :: some (.str (kindOf mk), .fz) :: some (.int n, .fz) :: some (.int o, .fz) :: some (.int v, .fz) :: some (.str M, .fz) :: some (.str (xs c 1), .fz) :: some (.int many, .fz) :: none :: z17) (E.set (E.bin (l7 _) (div_mod (N := N) rfl (by decide) (by decide) (by decide)) hm0) rfl) (E.seq (e1 := lwE ns N mk n o v c M many sc none none none none none none none) (E.set (E.bin (l6 _) (div_mod (N := N) rfl (by decide) (by decide) (by decide)) hsc0) rfl) (E.seq (e1 := lwE ns N mk n o v c M many sc (some (tmL c ts0, .ow)) none none none none none none) (E.setO hts0 rfl) (E.seq hmore (E.seq (e1 := lwE ns N mk n o v c M many sc (some (tmL c ts, .fz)) (some (pD (kindOf mk) (polyP c v ts), .fz)) none none none none none) (E.frz_ (d := tmL c ts) (fl := fl) rfl (E.set (E.call (xs := [.str (kindOf mk), tmL c ts, .int v]) rfl rfl hpoly) rfl)) hrest))))))))))))
  · rw [← ho0]; rfl
  · rw [← hv0]; rfl
end Pd73

set_option maxHeartbeats 0 in
theorem PySem.Challenge.cw_kindsoftables_k73_reduced_one_holds : PySem.Challenge.rw_kindsoftables_k73_reduced_one.Holds := by
  exact Pd73.holds_of Pd73.plain
